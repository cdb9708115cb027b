import PyProof.Rows.All
import Wide.All
import OpenK.AllK
import Wide.FinOn
import PyProof.StrWalks
import PyProof.ZipIter
import PyProof.AttrMissHeap
import KE.KPop
import KE.KRevSl
import PyProof.EqAt
import PyProof.Rows.Chain
import PyProof.LetGo
import Lean
import PySem.Challenge.RW_pq0089_08
set_option Elab.async false
set_option maxRecDepth 100000
set_option linter.all false
set_option tactic.hygienic false
set_option bootstrap.genMatcherCode false
set_option genSizeOf false
set_option genInjectivity false
set_option maxHeartbeats 1000000
open Nat renaming le_of_ble_eq_true→N,le_trans→Z,le_refl→ad,lt_of_lt_of_le→af,lt_of_le_of_lt→ah,le_of_eq→am,add_le_add_left→au,le_of_lt_succ→av,ne_of_lt→aB,le_of_not_lt→aF,lt_of_le_of_ne→aG,zero_le→aH,lt_of_lt_of_eq→aL,succ_add_eq_add_succ→aV,le_sub_one_of_lt→aW,succ→bf,le_add_right→bg,eq_of_beq_eq_true→bk,ble→bm,beq→bn,not_le_of_lt→bv,sub_one_lt_of_lt→bG,lt_succ_of_le→bJ,ne_of_gt→bP,lt_succ_self→bU,le_antisymm→ck,succ_le_succ→cq,le_succ→cr,le_of_sub_eq_zero→cu,lt_succ_of_lt→cx,not_lt_zero→cF,succ_pos→cH,lt_trans→cI,le_of_lt→cJ,lt_add_of_pos_right→cZ,le_of_succ_le→dj,sub_add_cancel→dI,lt_of_not_le→dJ,zero_add→el,lt_of_succ_lt_succ→em,add_le_add_right→eP,lt_irrefl→eU,add_sub_cancel'→fg,le_of_succ_le_succ→fF,add_right_comm→fG,le_max_left→fJ,ble_eq_true_of_le→fP,lt_trichotomy→fW,sub_lt_sub_right→f8,sub_le→f9,lt_of_mul_lt_mul_right→gd,le_max_right→gE,min_le_left→hZ,le_add_left→ie,beq_refl→iR,lt_of_sub_eq_succ→je,two_pos→jv,sub_le_of_le_add→jw,mul_le_mul_left→j4,not_lt→kX,add_le_add→kY,succ_le_of_lt→lQ,le_succ_of_le→lR,not_lt_of_le→me,sub_succ_lt_self→ox,add_lt_add_right→oy,pos_of_ne_zero→qR,sub_succ→rM,add_comm→rN,min_le_right→tL,min_eq_left→uR,mod_lt→ww,lt_of_add_lt_add_left→yn,exists_eq_add_of_le→AF,sub_zero→By,min_self→Bz,lt_asymm→BA,le_div_iff_mul_le→C3,two_mul→Da,not_succ_le_zero→Db,mul_le_mul_right→Dc,le_zero→Dd,le_add_of_sub_le→De,div_lt_of_lt_mul→Df,max_le→Gb,sub_pos_of_lt→HK,succ_ne_zero→IB,succ_lt_succ→IC,sub_one_lt→Ka
open PySem.Heap renaming get?_push_of_some→ab,get?_push_size→ak,get?_update_self→ay,lt_size→aJ,get?_update_other→ba,SameBut→bC,size_push→fh,ExtBut→ij,get?_push_ne→Gd,size_update→HS,IsTuple→K7
open List renaming size_toArray→ao,length_map→ar,mem_cons→aE,getElem?_eq_getElem→aI,mem_map→a8,all_eq_true→bu,mem_range→bz,getElem?_map→bB,getD_eq_getElem?_getD→bL,map_cons→bQ,replicate→bZ,mem_of_getElem?→cD,getElem?_eq_none→cQ,find?_cons→cU,range→dh,append_nil→dq,mem_singleton→dH,map_append→dX,map_map→ef,any_eq_true→eu,getElem?_eq_none_iff→eJ,forIn_cons→eK,length_range→eO,eq_nil_of_length_eq_zero→fq,pairwise_cons→fw,length_append→fy,nodup_cons→fH,length_take→gq,getElem_mem→gu,drop_eq_getElem_cons→gF,reverse_cons→iB,pairwise_map→iC,lt_irrefl→iD,drop_eq_nil_of_le→iE,append_assoc→iF,lookup_cons→jf,sum_cons→ji,mem_append→jW,length_reverse→jY,any_map→j5,contains_cons→kR,pairwise_iff_getElem→lx,getElem?_eq_some_iff→ly,nodup_append→lA,take_length→l6,filter_cons→l7,countP_cons→l8,take_of_length_le→m4,foldl_cons→nr,mem_iff_getElem?→nB,length→oo,getElem?_range→pH,filterMap_cons→pI,all_cons→pK,zip_nil_right→qp,take_add_one→rs,ext_getElem?→rx,nodup_range→tG,length_nil→um,nodup_iff_pairwise_ne→wm,length_eraseIdx_of_lt→wn,lt_trans→yo,pairwise_lt_range→AG,length_pos_of_mem→AH,length_eq_one_iff→AI,length_singleton→BB,getElem?_toArray→BC,range'→C4,mem_iff_getElem→C5,foldl_append→Gc,range'_succ→HL,not_mem_nil→HM,nil_lt_cons→HN,map_snd_zip→HO,length_drop→HP,getElem_map→HQ,getElem_inj→HR,length_zip→ID,head?_drop→IE,nodup_nil→JZ,map_take→Kb,map_nil→K6
open Option.some renaming inj→aw,injEq→nO
open Option renaming none→ax,map_eq_some_iff→aY,isSome_iff_exists→dG,bind_some→F5
open PySem.Heap.SameBut renaming update→aD,refl→wx
open Array renaming length_toList→aP,getD_eq_getD_getElem?→aX,getElem?_eq_getElem→bR,getD→cC,getElem?_eq_none→d7,size_map→ew,getElem?_toList→i0,forIn_toList→kJ,size_push→m6,replicate→m7,size_extract→pN,getElem?_map→pO,toList_push→qU,perm_iff_toList_perm→uS,getElem?_eq_some_iff→uT,getElem?_append_left→uU,getElem?_extract→yr,toArray_toList→BD,getElem_toList→BE,getElem?_push→C6,toList_map→Ge,toList_inj→Gf,any_toList→Gg
open Bool renaming and_eq_true→aZ,false_ne_true→bM,false_eq_true→fB,eq_false_iff→iG,or_eq_false_iff→jr,or_eq_true→nv,or_false→yp,eq_iff_iff→II,and_false→J2
open PySem.SetTable renaming below→bd,runEnd→be,insertAt→bE,grown→cN,bits→dB,sizeAbove→gM,laid→iQ,turns→jV,layClean→kH,fits→nM,Probe→tE,leap→uk,orStandIn→AE,tooFull→C1,relaid→C8,slot→F9,fill→Ga,has→HG,Met→HI
open Ne renaming symm→bA
open PySem.Obj renaming mapFields→bF,mapSeq→cO,putSet→ig,data_mapFields→kW,putName→ou,isFreed_of_fields→C2,data_mapDictKeys→C9,cls_mapFields→HJ
open PySem.Value renaming type→b9,none→gT,ref→i4,int→i5,isStrOf→jd,isStrOf_shape→ot,str→ym,isInt_shape→F4
open Int renaming negSucc→ce,natCast_nonneg→cY,ofNat_lt→er,not_lt→ey,toNat_natCast→eQ,ofNat_le→gG,le_trans→gH,lt_of_le_of_lt→ii,fmod_nonneg_of_pos→iS,ofNat_nonneg→jj,fmod_lt_of_pos→kZ,le_of_lt→nu,negSucc_eq→oz,lt_of_lt_of_le→qT,lt_trans→rP,natAbs_of_nonneg→Dg,toNat_of_nonneg→F6,le_antisymm→J0
open PySem.PyData renaming keyHash→ci,strOk→cE,canLayAll0→c8,eqv→dT,str→pF,depthAll→tF,canLay0→ul,eqvAll→wk,int→K5
open PySem.Str renaming ofString→di
open Or renaming elim→dn
open PySem.Around renaming in1_units→dC,under_of_weight→ma,frames_deeper→nD
open PySem.SetTable.probe renaming go→ee
open PySem.Builtin.SmallTypes renaming nextOf→fi,ownedTupleIsFree→HT
open PySem.SetTable.layClean renaming free→fY
open PySem.Builtin.List renaming listTooLong→jX,listExtendWith→pM,listSameRef→ry
open PySem.Builtin.Range renaming rangeSize→jZ,rangeFitsLong→pJ,small→uo
open List.cons renaming inj→kI
open PySem.Heap.IsSliceOf renaming new→l9
open PySem.Builtin.Dict_items renaming ownsTuple→m5
open Int.ofNat renaming inj→nC
open Nat.succ renaming inj→pG
open Int.negSucc renaming inj→pL
open PySem.Builtin.Tuple renaming tupleHashOf→qq
open List.Pairwise renaming imp_of_mem→qS
open List.Perm renaming swap→rO
open PySem.Value.ref renaming inj→tJ
open PySem.Builtin.Dict renaming showsAll→tM
open PySem.Heap.DictOf renaming new→AJ
open And renaming intro→AK
open PySem.SetTable.Met.empty renaming injEq→HH
open PySem.Builtin.Frozenset renaming updateFrom→IF,sizeOf→IG,newClass→IH
open PySem.SetTable.below renaming go→K4
namespace Mine.Internal
open PyProof.Rows PySem PySem.Calls PySem.SeqAt PySem.W
noncomputable abbrev PW:Program:=PySem.Challenge.pw_pq0089_08
noncomputable def Ji:List Stmt->Nat->Stmt
 | [],_=>.Pass ⟨0,0,0,0⟩
 | s::_,0=>s
 | _::r,n+1=>Ji r n
noncomputable def dg(p:Program)(i:Nat):Stmt:=Ji p.main.body i
noncomputable def eA(s:Stmt)(j:Nat):Stmt:=match s with
 | .ClassDef _ _ _ b ..=>Ji b j
 | s=>s
noncomputable def fnP(s:Stmt)(qual:Str)(cl:List (Str×Addr))(dV kV doc pm:Value)(an:Option Addr)(cdv ct:Value):FuncData:=match s with
 | .FunctionDef n a b _ _ _ sc ..=>⟨n,qual,a,.stmts b,sc,mainGlobals,cl,dV,kV,doc,pm,an,cdv,ct,builtinsNs⟩
 | _=>⟨qual,qual,⟨[],[],none,[],[],none,[]⟩,.stmts [],{ kind:=.function,names:=[],isGenerator:=false,isCoroutine:=false },mainGlobals,cl,dV,kV,doc,pm,an,cdv,ct,builtinsNs⟩
@[reducible] noncomputable def vs (x:String)(t:Tok):Value:=.str (.ofString x) t
@[reducible] noncomputable def vi (n:Int):Value:=.int n 0
@[reducible] noncomputable def vr (a:Addr):Value:=.ref a
@[reducible] noncomputable def de (P:Params)(x:String)(t:Tok)(v:Value):DictEntry:={ hash:=ci P (.ofString x),key:=.str (.ofString x) t,val:=v }
@[reducible] noncomputable def ob (c:String)(d:Data):Obj:={ cls:=.type c,data:=d }
noncomputable def fo(s:Stmt)(q:Str)(cl:List (Str×Addr))(d k:Value)(m:String)(t:Tok)(c:Addr):Obj:=⟨.type "function",none,.func (fnP s q cl d k .none (vs m t) none (vr c) .none),#[]⟩
noncomputable def KF(P:Params):Frag:=[
 (2,{ cls:=.none,data:=Data.dict #[de P "type.__subclasses__.Exception.0" 230 (vi 47),de P "type.__subclasses__.Exception.n" 231 (vi 1)] 2 }),
 (3,ob "dict" (.dict #[de P "__name__" 165 (vs "law_pq0089_08" 925),de P "__doc__" 166 .none,de P "__package__" 167 .none,de P "__loader__" 168 (.builtin "__main__.__loader__#opaque"),de P "__spec__" 169 .none,de P "__annotations__" 170 (vr 6),de P "__builtins__" 171 (vr 4),de P "__file__" 173 (vs "/claim/cut.py" 172),de P "__cached__" 174 .none,de P "_wall" 193 (vr 21),de P "HeapError" 233 (vr 47),de P "TermFault" 249 (vr 60),de P "RuleFault" 265 (vr 72),de P "is_op" 273 (vr 79),de P "is_variable" 280 (vr 86),de P "variables" 286 (vr 91),de P "parts" 292 (vr 96),de P "Bank" 423 (vr 198),de P "Walker" 477 (vr 236),de P "ORDERS" 483 (vr 241),de P "Rule" 520 (vr 263),de P "Placer" 574 (vr 301),de P "Runner" 655 (vr 356),de P "Unions" 759 (vr 438),de P "Heap" 924 (vr 566),de P "_law_next" 935 (vr 577),de P "_law_hand" 941 (vr 582),de P "_law_lots" 947 (vr 587),de P "_law_less" 953 (vr 592),de P "_law_sums" 959 (vr 597),de P "_law_class" 965 (vr 602),de P "_law_start" 971 (vr 607),de P "_law_classes_right" 977 (vr 612),de P "law" 983 (vr 617)] 34)),
 (36,ob "code" (.fields #[vs "__init__" 208,vs "HeapError.__init__" 209,vs "/claim/cut.py" 210,vi 7,vi 2,vi 0,vi 0,vi 3,vr 31,.bool true,vi 181,vr 32,.none,vr 33,vr 34,vr 35,vi 214,vi 7,vs "/claim/cut.py" 215])),
 (37,⟨.type "function",none,.func (fnP (eA (dg PW 2) 0) "HeapError.__init__" ([("__class__",25)]) .none .none .none (vs "alikeheap.errors" 194) (none) (vr 36) (vr 30)),#[]⟩),
 (78,ob "code" (.fields #[vs "is_op" 268,vs "is_op" 269,vs "/claim/cut.py" 270,vi 18,vi 1,vi 0,vi 0,vi 3,vr 75,.bool true,vi 181,vr 76,.none,.none,.none,vr 77,vi 271,vi 18,vs "/claim/cut.py" 272])),
 (79,fo (dg PW 6) "is_op" [] .none .none "alikeheap.terms" 266 78),
 (85,ob "code" (.fields #[vs "is_variable" 274,vs "is_variable" 275,vs "/claim/cut.py" 276,vi 20,vi 1,vi 0,vi 0,vi 3,vr 80,.bool true,vi 181,vr 81,.none,vr 82,vr 83,vr 84,vi 278,vi 20,vs "/claim/cut.py" 279])),
 (86,fo (dg PW 7) "is_variable" [] .none .none "alikeheap.terms" 266 85),
 (90,ob "code" (.fields #[vs "variables" 281,vs "variables" 282,vs "/claim/cut.py" 283,vi 22,vi 1,vi 0,vi 0,vi 3,vr 87,.bool true,vi 181,vr 88,.none,.none,.none,vr 89,vi 284,vi 22,vs "/claim/cut.py" 285])),
 (91,fo (dg PW 8) "variables" [] .none .none "alikeheap.terms" 266 90),
 (95,ob "code" (.fields #[vs "parts" 287,vs "parts" 288,vs "/claim/cut.py" 289,vi 24,vi 1,vi 0,vi 0,vi 3,vr 92,.bool true,vi 181,vr 93,.none,.none,.none,vr 94,vi 290,vi 24,vs "/claim/cut.py" 291])),
 (96,fo (dg PW 9) "parts" [] .none .none "alikeheap.terms" 266 95),
 (109,ob "code" (.fields #[vs "__init__" 305,vs "Bank.__init__" 306,vs "/claim/cut.py" 307,vi 31,vi 1,vi 0,vi 0,vi 3,vr 104,.bool true,vi 181,vr 105,.none,vr 106,vr 107,vr 108,vi 309,vi 31,vs "/claim/cut.py" 310])),
 (110,fo (eA (dg PW 10) 0) "Bank.__init__" [] .none .none "alikeheap.terms" 266 109),
 (116,ob "code" (.fields #[vs "size" 312,vs "Bank.size" 313,vs "/claim/cut.py" 314,vi 37,vi 1,vi 0,vi 0,vi 3,vr 111,.bool true,vi 181,vr 112,.none,vr 113,vr 114,vr 115,vi 316,vi 37,vs "/claim/cut.py" 317])),
 (117,fo (eA (dg PW 10) 1) "Bank.size" [] .none .none "alikeheap.terms" 266 116),
 (121,ob "code" (.fields #[vs "take" 319,vs "Bank.take" 320,vs "/claim/cut.py" 321,vi 40,vi 3,vi 0,vi 0,vi 3,vr 118,.bool true,vi 181,vr 119,.none,.none,.none,vr 120,vi 322,vi 40,vs "/claim/cut.py" 323])),
 (122,fo (eA (dg PW 10) 2) "Bank.take" [] .none .none "alikeheap.terms" 266 121),
 (128,ob "code" (.fields #[vs "require" 325,vs "Bank.require" 326,vs "/claim/cut.py" 327,vi 54,vi 2,vi 0,vi 0,vi 3,vr 123,.bool true,vi 181,vr 124,.none,vr 125,vr 126,vr 127,vi 330,vi 54,vs "/claim/cut.py" 331])),
 (129,fo (eA (dg PW 10) 3) "Bank.require" [] .none .none "alikeheap.terms" 266 128),
 (154,ob "code" (.fields #[vs "op" 357,vs "Bank.op" 358,vs "/claim/cut.py" 359,vi 69,vi 2,vi 0,vi 0,vi 3,vr 149,.bool true,vi 181,vr 150,.none,vr 151,vr 152,vr 153,vi 362,vi 69,vs "/claim/cut.py" 363])),
 (155,fo (eA (dg PW 10) 7) "Bank.op" [] .none .none "alikeheap.terms" 266 154),
 (161,ob "code" (.fields #[vs "kids" 365,vs "Bank.kids" 366,vs "/claim/cut.py" 367,vi 72,vi 2,vi 0,vi 0,vi 3,vr 156,.bool true,vi 181,vr 157,.none,vr 158,vr 159,vr 160,vi 370,vi 72,vs "/claim/cut.py" 371])),
 (162,fo (eA (dg PW 10) 8) "Bank.kids" [] .none .none "alikeheap.terms" 266 161),
 (197,ob "dict" (.dict #[de P "__module__" 300 (vs "alikeheap.terms" 266),de P "__firstlineno__" 304 (i5 29 303),de P "__init__" 311 (vr 110),de P "size" 318 (vr 117),de P "take" 324 (vr 122),de P "require" 332 (vr 129),de P "put" 342 (vr 136),de P "put_all" 348 (vr 141),de P "cut" 356 (vr 148),de P "op" 364 (vr 155),de P "kids" 372 (vr 162),de P "node" 380 (vr 169),de P "term" 386 (vr 174),de P "weight" 394 (vr 181),de P "depth" 402 (vr 188),de P "seek" 411 (vr 195),de P "__static_attributes__" 416 (vr 196),de P "__dict__" 418 (vr 199),de P "__weakref__" 420 (vr 200),de P "__doc__" 421 .none] 4)),
 (198,{ cls:=.type "type",data:=.cls { name:="Bank",bases:=[.type "object"],mro:=[vr 198,.type "object"],ns:=197,qualname:="Bank" },slots:=#[none,none,some (vs "Bank" 293),some (vs "Bank" 301),some (.builtin "object.__new__"),some (.bool true)] }),
 (215,ob "code" (.fields #[vs "__init__" 438,vs "Walker.__init__" 439,vs "/claim/cut.py" 440,vi 101,vi 2,vi 0,vi 0,vi 3,vr 210,.bool true,vi 181,vr 211,.none,vr 212,vr 213,vr 214,vi 443,vi 101,vs "/claim/cut.py" 444])),
 (216,fo (eA (dg PW 12) 0) "Walker.__init__" [] .none .none "alikeheap.matching" 424 215),
 (220,ob "code" (.fields #[vs "extended" 446,vs "Walker.extended" 447,vs "/claim/cut.py" 448,vi 104,vi 4,vi 0,vi 0,vi 3,vr 217,.bool true,vi 181,vr 218,.none,.none,.none,vr 219,vi 449,vi 104,vs "/claim/cut.py" 450])),
 (221,fo (eA (dg PW 12) 1) "Walker.extended" [] .none .none "alikeheap.matching" 424 220),
 (227,ob "code" (.fields #[vs "found_in" 452,vs "Walker.found_in" 453,vs "/claim/cut.py" 454,vi 119,vi 3,vi 0,vi 0,vi 3,vr 222,.bool true,vi 181,vr 223,.none,vr 224,vr 225,vr 226,vi 460,vi 119,vs "/claim/cut.py" 461])),
 (228,fo (eA (dg PW 12) 2) "Walker.found_in" [] .none .none "alikeheap.matching" 424 227),
 (232,ob "code" (.fields #[vs "found" 463,vs "Walker.found" 464,vs "/claim/cut.py" 465,vi 125,vi 2,vi 0,vi 0,vi 3,vr 229,.bool true,vi 181,vr 230,.none,.none,.none,vr 231,vi 466,vi 125,vs "/claim/cut.py" 467])),
 (233,fo (eA (dg PW 12) 3) "Walker.found" [] .none .none "alikeheap.matching" 424 232),
 (235,ob "dict" (.dict #[de P "__module__" 433 (vs "alikeheap.matching" 424),de P "__firstlineno__" 437 (i5 99 436),de P "__init__" 445 (vr 216),de P "extended" 451 (vr 221),de P "found_in" 462 (vr 228),de P "found" 468 (vr 233),de P "__static_attributes__" 470 (vr 234),de P "__dict__" 472 (vr 237),de P "__weakref__" 474 (vr 238),de P "__doc__" 475 .none] 4)),
 (236,{ cls:=.type "type",data:=.cls { name:="Walker",bases:=[.type "object"],mro:=[vr 236,.type "object"],ns:=235,qualname:="Walker" },slots:=#[none,none,some (vs "Walker" 426),some (vs "Walker" 434),some (.builtin "object.__new__"),some (.bool true)] }),
 (241,ob "tuple" (.seq #[vs "together" 480,vs "turns" 481,vs "rests" 482])),
 (252,ob "code" (.fields #[vs "__init__" 496,vs "Rule.__init__" 497,vs "/claim/cut.py" 498,vi 131,vi 5,vi 0,vi 0,vi 3,vr 249,.bool true,vi 181,vr 250,.none,.none,.none,vr 251,vi 499,vi 131,vs "/claim/cut.py" 500])),
 (253,fo (eA (dg PW 15) 0) "Rule.__init__" [] .none .none "alikeheap.rules" 478 252),
 (262,ob "dict" (.dict #[de P "__module__" 491 (vs "alikeheap.rules" 478),de P "__firstlineno__" 495 (i5 129 494),de P "__init__" 501 (vr 253),de P "turned" 508 (vr 260),de P "__static_attributes__" 513 (vr 261),de P "__dict__" 515 (vr 264),de P "__weakref__" 517 (vr 265),de P "__doc__" 518 .none] 4)),
 (263,{ cls:=.type "type",data:=.cls { name:="Rule",bases:=[.type "object"],mro:=[vr 263,.type "object"],ns:=262,qualname:="Rule" },slots:=#[none,none,some (vs "Rule" 484),some (vs "Rule" 492),some (.builtin "object.__new__"),some (.bool true)] }),
 (280,ob "code" (.fields #[vs "__init__" 533,vs "Placer.__init__" 534,vs "/claim/cut.py" 535,vi 151,vi 2,vi 0,vi 0,vi 3,vr 275,.bool true,vi 181,vr 276,.none,vr 277,vr 278,vr 279,vi 538,vi 151,vs "/claim/cut.py" 539])),
 (281,fo (eA (dg PW 16) 0) "Placer.__init__" [] .none .none "alikeheap.rules" 478 280),
 (285,ob "code" (.fields #[vs "put" 541,vs "Placer.put" 542,vs "/claim/cut.py" 543,vi 154,vi 3,vi 0,vi 0,vi 3,vr 282,.bool true,vi 181,vr 283,.none,.none,.none,vr 284,vi 544,vi 154,vs "/claim/cut.py" 545])),
 (286,fo (eA (dg PW 16) 1) "Placer.put" [] .none .none "alikeheap.rules" 478 285),
 (297,ob "code" (.fields #[vs "holds" 553,vs "Placer.holds" 554,vs "/claim/cut.py" 555,vi 165,vi 3,vi 0,vi 0,vi 3,vr 292,.bool true,vi 181,vr 293,.none,vr 294,vr 295,vr 296,vi 563,vi 165,vs "/claim/cut.py" 564])),
 (298,fo (eA (dg PW 16) 3) "Placer.holds" [] .none .none "alikeheap.rules" 478 297),
 (300,ob "dict" (.dict #[de P "__module__" 528 (vs "alikeheap.rules" 478),de P "__firstlineno__" 532 (i5 149 531),de P "__init__" 540 (vr 281),de P "put" 546 (vr 286),de P "class_of" 552 (vr 291),de P "holds" 565 (vr 298),de P "__static_attributes__" 567 (vr 299),de P "__dict__" 569 (vr 302),de P "__weakref__" 571 (vr 303),de P "__doc__" 572 .none] 4)),
 (301,{ cls:=.type "type",data:=.cls { name:="Placer",bases:=[.type "object"],mro:=[vr 301,.type "object"],ns:=300,qualname:="Placer" },slots:=#[none,none,some (vs "Placer" 521),some (vs "Placer" 529),some (.builtin "object.__new__"),some (.bool true)] }),
 (316,ob "code" (.fields #[vs "__init__" 587,vs "Runner.__init__" 588,vs "/claim/cut.py" 589,vi 171,vi 4,vi 0,vi 0,vi 3,vr 313,.bool true,vi 181,vr 314,.none,.none,.none,vr 315,vi 590,vi 171,vs "/claim/cut.py" 591])),
 (317,fo (eA (dg PW 17) 0) "Runner.__init__" [] .none .none "alikeheap.rules" 478 316),
 (323,ob "code" (.fields #[vs "is_full" 593,vs "Runner.is_full" 594,vs "/claim/cut.py" 595,vi 187,vi 1,vi 0,vi 0,vi 3,vr 318,.bool true,vi 181,vr 319,.none,vr 320,vr 321,vr 322,vi 597,vi 187,vs "/claim/cut.py" 598])),
 (324,fo (eA (dg PW 17) 1) "Runner.is_full" [] .none .none "alikeheap.rules" 478 323),
 (330,ob "code" (.fields #[vs "matches" 600,vs "Runner.matches" 601,vs "/claim/cut.py" 602,vi 190,vi 2,vi 0,vi 0,vi 3,vr 325,.bool true,vi 181,vr 326,.none,vr 327,vr 328,vr 329,vi 606,vi 190,vs "/claim/cut.py" 607])),
 (331,fo (eA (dg PW 17) 2) "Runner.matches" [] .none .none "alikeheap.rules" 478 330),
 (335,ob "code" (.fields #[vs "apply" 609,vs "Runner.apply" 610,vs "/claim/cut.py" 611,vi 201,vi 3,vi 0,vi 0,vi 3,vr 332,.bool true,vi 181,vr 333,.none,.none,.none,vr 334,vi 612,vi 201,vs "/claim/cut.py" 613])),
 (336,fo (eA (dg PW 17) 3) "Runner.apply" [] .none .none "alikeheap.rules" 478 335),
 (342,ob "code" (.fields #[vs "apply_all" 615,vs "Runner.apply_all" 616,vs "/claim/cut.py" 617,vi 210,vi 3,vi 0,vi 0,vi 3,vr 337,.bool true,vi 181,vr 338,.none,vr 339,vr 340,vr 341,vi 624,vi 210,vs "/claim/cut.py" 625])),
 (343,fo (eA (dg PW 17) 4) "Runner.apply_all" [] .none .none "alikeheap.rules" 478 342),
 (347,ob "code" (.fields #[vs "one_round" 627,vs "Runner.one_round" 628,vs "/claim/cut.py" 629,vi 218,vi 1,vi 0,vi 0,vi 3,vr 344,.bool true,vi 181,vr 345,.none,.none,.none,vr 346,vi 630,vi 218,vs "/claim/cut.py" 631])),
 (348,fo (eA (dg PW 17) 5) "Runner.one_round" [] .none .none "alikeheap.rules" 478 347),
 (352,ob "code" (.fields #[vs "run" 633,vs "Runner.run" 634,vs "/claim/cut.py" 635,vi 232,vi 1,vi 0,vi 0,vi 3,vr 349,.bool true,vi 181,vr 350,.none,.none,.none,vr 351,vi 636,vi 232,vs "/claim/cut.py" 637])),
 (353,fo (eA (dg PW 17) 6) "Runner.run" [] .none .none "alikeheap.rules" 478 352),
 (355,ob "dict" (.dict #[de P "__module__" 582 (vs "alikeheap.rules" 478),de P "__firstlineno__" 586 (i5 169 585),de P "__init__" 592 (vr 317),de P "is_full" 599 (vr 324),de P "matches" 608 (vr 331),de P "apply" 614 (vr 336),de P "apply_all" 626 (vr 343),de P "one_round" 632 (vr 348),de P "run" 638 (vr 353),de P "__static_attributes__" 648 (vr 354),de P "__dict__" 650 (vr 357),de P "__weakref__" 652 (vr 358),de P "__doc__" 653 .none] 4)),
 (356,{ cls:=.type "type",data:=.cls { name:="Runner",bases:=[.type "object"],mro:=[vr 356,.type "object"],ns:=355,qualname:="Runner" },slots:=#[none,none,some (vs "Runner" 575),some (vs "Runner" 583),some (.builtin "object.__new__"),some (.bool true)] }),
 (373,ob "code" (.fields #[vs "__init__" 670,vs "Unions.__init__" 671,vs "/claim/cut.py" 672,vi 243,vi 1,vi 0,vi 0,vi 3,vr 368,.bool true,vi 181,vr 369,.none,vr 370,vr 371,vr 372,vi 674,vi 243,vs "/claim/cut.py" 675])),
 (374,fo (eA (dg PW 19) 0) "Unions.__init__" [] .none .none "alikeheap.unions" 656 373),
 (380,ob "code" (.fields #[vs "make" 677,vs "Unions.make" 678,vs "/claim/cut.py" 679,vi 248,vi 1,vi 0,vi 0,vi 3,vr 375,.bool true,vi 181,vr 376,.none,vr 377,vr 378,vr 379,vi 681,vi 248,vs "/claim/cut.py" 682])),
 (381,fo (eA (dg PW 19) 1) "Unions.make" [] .none .none "alikeheap.unions" 656 380),
 (387,ob "code" (.fields #[vs "size" 684,vs "Unions.size" 685,vs "/claim/cut.py" 686,vi 253,vi 1,vi 0,vi 0,vi 3,vr 382,.bool true,vi 181,vr 383,.none,vr 384,vr 385,vr 386,vi 688,vi 253,vs "/claim/cut.py" 689])),
 (388,fo (eA (dg PW 19) 2) "Unions.size" [] .none .none "alikeheap.unions" 656 387),
 (394,ob "code" (.fields #[vs "find" 691,vs "Unions.find" 692,vs "/claim/cut.py" 693,vi 256,vi 2,vi 0,vi 0,vi 3,vr 389,.bool true,vi 181,vr 390,.none,vr 391,vr 392,vr 393,vi 696,vi 256,vs "/claim/cut.py" 697])),
 (395,fo (eA (dg PW 19) 3) "Unions.find" [] .none .none "alikeheap.unions" 656 394),
 (401,ob "code" (.fields #[vs "merge" 699,vs "Unions.merge" 700,vs "/claim/cut.py" 701,vi 261,vi 3,vi 0,vi 0,vi 3,vr 396,.bool true,vi 181,vr 397,.none,vr 398,vr 399,vr 400,vi 707,vi 261,vs "/claim/cut.py" 708])),
 (402,fo (eA (dg PW 19) 4) "Unions.merge" [] .none .none "alikeheap.unions" 656 401),
 (408,ob "code" (.fields #[vs "members" 710,vs "Unions.members" 711,vs "/claim/cut.py" 712,vi 270,vi 2,vi 0,vi 0,vi 3,vr 403,.bool true,vi 181,vr 404,.none,vr 405,vr 406,vr 407,vi 715,vi 270,vs "/claim/cut.py" 716])),
 (409,fo (eA (dg PW 19) 5) "Unions.members" [] .none .none "alikeheap.unions" 656 408),
 (413,ob "code" (.fields #[vs "classes" 718,vs "Unions.classes" 719,vs "/claim/cut.py" 720,vi 273,vi 1,vi 0,vi 0,vi 3,vr 410,.bool true,vi 181,vr 411,.none,.none,.none,vr 412,vi 721,vi 273,vs "/claim/cut.py" 722])),
 (414,fo (eA (dg PW 19) 6) "Unions.classes" [] .none .none "alikeheap.unions" 656 413),
 (437,ob "dict" (.dict #[de P "__module__" 665 (vs "alikeheap.unions" 656),de P "__firstlineno__" 669 (i5 241 668),de P "__init__" 676 (vr 374),de P "make" 683 (vr 381),de P "size" 690 (vr 388),de P "find" 698 (vr 395),de P "merge" 709 (vr 402),de P "members" 717 (vr 409),de P "classes" 723 (vr 414),de P "log" 730 (vr 421),de P "back" 740 (vr 428),de P "cut" 748 (vr 435),de P "__static_attributes__" 752 (vr 436),de P "__dict__" 754 (vr 439),de P "__weakref__" 756 (vr 440),de P "__doc__" 757 .none] 4)),
 (438,{ cls:=.type "type",data:=.cls { name:="Unions",bases:=[.type "object"],mro:=[vr 438,.type "object"],ns:=437,qualname:="Unions" },slots:=#[none,none,some (vs "Unions" 658),some (vs "Unions" 666),some (.builtin "object.__new__"),some (.bool true)] }),
 (455,ob "code" (.fields #[vs "__init__" 774,vs "Heap.__init__" 775,vs "/claim/cut.py" 776,vi 290,vi 1,vi 0,vi 0,vi 3,vr 450,.bool true,vi 181,vr 451,.none,vr 452,vr 453,vr 454,vi 778,vi 290,vs "/claim/cut.py" 779])),
 (456,fo (eA (dg PW 21) 0) "Heap.__init__" [] .none .none "alikeheap.heap" 760 455),
 (462,ob "code" (.fields #[vs "size" 781,vs "Heap.size" 782,vs "/claim/cut.py" 783,vi 299,vi 1,vi 0,vi 0,vi 3,vr 457,.bool true,vi 181,vr 458,.none,vr 459,vr 460,vr 461,vi 785,vi 299,vs "/claim/cut.py" 786])),
 (463,fo (eA (dg PW 21) 1) "Heap.size" [] .none .none "alikeheap.heap" 760 462),
 (467,ob "code" (.fields #[vs "node" 788,vs "Heap.node" 789,vs "/claim/cut.py" 790,vi 302,vi 2,vi 0,vi 0,vi 3,vr 464,.bool true,vi 181,vr 465,.none,.none,.none,vr 466,vi 791,vi 302,vs "/claim/cut.py" 792])),
 (468,fo (eA (dg PW 21) 2) "Heap.node" [] .none .none "alikeheap.heap" 760 467),
 (472,ob "code" (.fields #[vs "add" 794,vs "Heap.add" 795,vs "/claim/cut.py" 796,vi 305,vi 3,vi 0,vi 0,vi 3,vr 469,.bool true,vi 181,vr 470,.none,.none,.none,vr 471,vi 797,vi 305,vs "/claim/cut.py" 798])),
 (473,fo (eA (dg PW 21) 3) "Heap.add" [] .none .none "alikeheap.heap" 760 472),
 (477,ob "code" (.fields #[vs "put" 800,vs "Heap.put" 801,vs "/claim/cut.py" 802,vi 316,vi 2,vi 0,vi 0,vi 3,vr 474,.bool true,vi 181,vr 475,.none,.none,.none,vr 476,vi 803,vi 316,vs "/claim/cut.py" 804])),
 (478,fo (eA (dg PW 21) 4) "Heap.put" [] .none .none "alikeheap.heap" 760 477),
 (484,ob "code" (.fields #[vs "look_at" 806,vs "Heap.look_at" 807,vs "/claim/cut.py" 808,vi 319,vi 2,vi 0,vi 0,vi 3,vr 479,.bool true,vi 181,vr 480,.none,vr 481,vr 482,vr 483,vi 812,vi 319,vs "/claim/cut.py" 813])),
 (485,fo (eA (dg PW 21) 5) "Heap.look_at" [] .none .none "alikeheap.heap" 760 484),
 (491,ob "code" (.fields #[vs "find" 815,vs "Heap.find" 816,vs "/claim/cut.py" 817,vi 324,vi 2,vi 0,vi 0,vi 3,vr 486,.bool true,vi 181,vr 487,.none,vr 488,vr 489,vr 490,vi 820,vi 324,vs "/claim/cut.py" 821])),
 (492,fo (eA (dg PW 21) 6) "Heap.find" [] .none .none "alikeheap.heap" 760 491),
 (505,ob "code" (.fields #[vs "merge" 832,vs "Heap.merge" 833,vs "/claim/cut.py" 834,vi 330,vi 4,vi 0,vi 0,vi 3,vr 500,.bool true,vi 181,vr 501,.none,vr 502,vr 503,vr 504,vi 839,vi 330,vs "/claim/cut.py" 840])),
 (506,fo (eA (dg PW 21) 8) "Heap.merge" [] .none .none "alikeheap.heap" 760 505),
 (512,ob "code" (.fields #[vs "join" 842,vs "Heap.join" 843,vs "/claim/cut.py" 844,vi 333,vi 4,vi 0,vi 0,vi 3,vr 507,.bool true,vi 181,vr 508,.none,vr 509,vr 510,vr 511,vi 852,vi 333,vs "/claim/cut.py" 853])),
 (513,fo (eA (dg PW 21) 9) "Heap.join" [] .none .none "alikeheap.heap" 760 512),
 (519,ob "code" (.fields #[vs "settle" 855,vs "Heap.settle" 856,vs "/claim/cut.py" 857,vi 344,vi 1,vi 0,vi 0,vi 3,vr 514,.bool true,vi 181,vr 515,.none,vr 516,vr 517,vr 518,vi 859,vi 344,vs "/claim/cut.py" 860])),
 (520,fo (eA (dg PW 21) 10) "Heap.settle" [] .none .none "alikeheap.heap" 760 519),
 (533,ob "code" (.fields #[vs "classes" 869,vs "Heap.classes" 870,vs "/claim/cut.py" 871,vi 351,vi 1,vi 0,vi 0,vi 3,vr 528,.bool true,vi 181,vr 529,.none,vr 530,vr 531,vr 532,vi 873,vi 351,vs "/claim/cut.py" 874])),
 (534,fo (eA (dg PW 21) 12) "Heap.classes" [] .none .none "alikeheap.heap" 760 533),
 (540,ob "code" (.fields #[vs "members" 876,vs "Heap.members" 877,vs "/claim/cut.py" 878,vi 354,vi 2,vi 0,vi 0,vi 3,vr 535,.bool true,vi 181,vr 536,.none,vr 537,vr 538,vr 539,vi 881,vi 354,vs "/claim/cut.py" 882])),
 (541,fo (eA (dg PW 21) 13) "Heap.members" [] .none .none "alikeheap.heap" 760 540),
 (545,ob "code" (.fields #[vs "nodes_of" 884,vs "Heap.nodes_of" 885,vs "/claim/cut.py" 886,vi 357,vi 2,vi 0,vi 0,vi 3,vr 542,.bool true,vi 181,vr 543,.none,.none,.none,vr 544,vi 887,vi 357,vs "/claim/cut.py" 888])),
 (546,fo (eA (dg PW 21) 14) "Heap.nodes_of" [] .none .none "alikeheap.heap" 760 545),
 (550,ob "code" (.fields #[vs "many_nodes" 890,vs "Heap.many_nodes" 891,vs "/claim/cut.py" 892,vi 360,vi 1,vi 0,vi 0,vi 3,vr 547,.bool true,vi 181,vr 548,.none,.none,.none,vr 549,vi 893,vi 360,vs "/claim/cut.py" 894])),
 (551,fo (eA (dg PW 21) 15) "Heap.many_nodes" [] .none .none "alikeheap.heap" 760 550),
 (555,ob "code" (.fields #[vs "seek" 896,vs "Heap.seek" 897,vs "/claim/cut.py" 898,vi 363,vi 3,vi 0,vi 0,vi 3,vr 552,.bool true,vi 181,vr 553,.none,.none,.none,vr 554,vi 899,vi 363,vs "/claim/cut.py" 900])),
 (556,fo (eA (dg PW 21) 16) "Heap.seek" [] .none .none "alikeheap.heap" 760 555),
 (565,ob "dict" (.dict #[de P "__module__" 769 (vs "alikeheap.heap" 760),de P "__firstlineno__" 773 (i5 288 772),de P "__init__" 780 (vr 456),de P "size" 787 (vr 463),de P "node" 793 (vr 468),de P "add" 799 (vr 473),de P "put" 805 (vr 478),de P "look_at" 814 (vr 485),de P "find" 822 (vr 492),de P "are_like" 831 (vr 499),de P "merge" 841 (vr 506),de P "join" 854 (vr 513),de P "settle" 861 (vr 520),de P "is_settled" 868 (vr 527),de P "classes" 875 (vr 534),de P "members" 883 (vr 541),de P "nodes_of" 889 (vr 546),de P "many_nodes" 895 (vr 551),de P "seek" 901 (vr 556),de P "users" 909 (vr 563),de P "__static_attributes__" 917 (vr 564),de P "__dict__" 919 (vr 567),de P "__weakref__" 921 (vr 568),de P "__doc__" 922 .none] 4)),
 (566,{ cls:=.type "type",data:=.cls { name:="Heap",bases:=[.type "object"],mro:=[vr 566,.type "object"],ns:=565,qualname:="Heap" },slots:=#[none,none,some (vs "Heap" 762),some (vs "Heap" 770),some (.builtin "object.__new__"),some (.bool true)] }),
 (576,ob "code" (.fields #[vs "_law_next" 927,vs "_law_next" 928,vs "/claim/cut.py" 929,vi 370,vi 2,vi 0,vi 0,vi 3,vr 571,.bool true,vi 181,vr 572,.none,vr 573,vr 574,vr 575,vi 933,vi 370,vs "/claim/cut.py" 934])),
 (577,fo (dg PW 23) "_law_next" [] .none .none "law_pq0089_08" 925 576),
 (581,ob "code" (.fields #[vs "_law_hand" 936,vs "_law_hand" 937,vs "/claim/cut.py" 938,vi 377,vi 1,vi 0,vi 0,vi 3,vr 578,.bool true,vi 181,vr 579,.none,.none,.none,vr 580,vi 939,vi 377,vs "/claim/cut.py" 940])),
 (582,fo (dg PW 24) "_law_hand" [] .none .none "law_pq0089_08" 925 581),
 (586,ob "code" (.fields #[vs "_law_lots" 942,vs "_law_lots" 943,vs "/claim/cut.py" 944,vi 380,vi 1,vi 0,vi 0,vi 3,vr 583,.bool true,vi 181,vr 584,.none,.none,.none,vr 585,vi 945,vi 380,vs "/claim/cut.py" 946])),
 (587,fo (dg PW 25) "_law_lots" [] .none .none "law_pq0089_08" 925 586),
 (591,ob "code" (.fields #[vs "_law_less" 948,vs "_law_less" 949,vs "/claim/cut.py" 950,vi 385,vi 2,vi 0,vi 0,vi 3,vr 588,.bool true,vi 181,vr 589,.none,.none,.none,vr 590,vi 951,vi 385,vs "/claim/cut.py" 952])),
 (592,fo (dg PW 26) "_law_less" [] .none .none "law_pq0089_08" 925 591),
 (596,ob "code" (.fields #[vs "_law_sums" 954,vs "_law_sums" 955,vs "/claim/cut.py" 956,vi 388,vi 3,vi 0,vi 0,vi 3,vr 593,.bool true,vi 181,vr 594,.none,.none,.none,vr 595,vi 957,vi 388,vs "/claim/cut.py" 958])),
 (597,fo (dg PW 27) "_law_sums" [] .none .none "law_pq0089_08" 925 596),
 (601,ob "code" (.fields #[vs "_law_class" 960,vs "_law_class" 961,vs "/claim/cut.py" 962,vi 398,vi 2,vi 0,vi 0,vi 3,vr 598,.bool true,vi 181,vr 599,.none,.none,.none,vr 600,vi 963,vi 398,vs "/claim/cut.py" 964])),
 (602,fo (dg PW 28) "_law_class" [] .none .none "law_pq0089_08" 925 601),
 (606,ob "code" (.fields #[vs "_law_start" 966,vs "_law_start" 967,vs "/claim/cut.py" 968,vi 401,vi 2,vi 0,vi 0,vi 3,vr 603,.bool true,vi 181,vr 604,.none,.none,.none,vr 605,vi 969,vi 401,vs "/claim/cut.py" 970])),
 (607,fo (dg PW 29) "_law_start" [] .none .none "law_pq0089_08" 925 606),
 (611,ob "code" (.fields #[vs "_law_classes_right" 972,vs "_law_classes_right" 973,vs "/claim/cut.py" 974,vi 407,vi 3,vi 0,vi 0,vi 3,vr 608,.bool true,vi 181,vr 609,.none,.none,.none,vr 610,vi 975,vi 407,vs "/claim/cut.py" 976])),
 (612,fo (dg PW 30) "_law_classes_right" [] .none .none "law_pq0089_08" 925 611),
 (616,ob "code" (.fields #[vs "law" 978,vs "law" 979,vs "/claim/cut.py" 980,vi 418,vi 1,vi 0,vi 0,vi 3,vr 613,.bool true,vi 181,vr 614,.none,.none,.none,vr 615,vi 981,vi 418,vs "/claim/cut.py" 982])),
 (617,fo (dg PW 31) "law" [] .none .none "law_pq0089_08" 925 616)]
noncomputable def KA:List Addr:=[2,3,36,37,78,79,85,86,90,91,95,96,109,110,116,117,121,122,128,129,154,155,161,162,197,198,215,216,220,221,227,228,232,233,235,236,241,252,253,262,263,280,281,285,286,297,298,300,301,316,317,323,324,330,331,335,336,342,343,347,348,352,353,355,356,373,374,380,381,387,388,394,395,401,402,408,409,413,414,437,438,455,456,462,463,467,468,472,473,477,478,484,485,491,492,505,506,512,513,519,520,533,534,540,541,545,546,550,551,555,556,565,566,576,577,581,582,586,587,591,592,596,597,601,602,606,607,611,612,616,617]
section
theorem nt{c:Prop}(h:false=true):c:=absurd h bM
theorem fL{u d c:Nat}(h:u+20*d+200<c){k:Nat}(hk:bm k 200=true):u+k<c:=ah (Z (au (N hk) u) (eP (bg u _) 200)) h
theorem FC{a d l:Nat}(h:a+2*(d+1)<l):a+1+2*d<l:=by
 rw[fG]; exact cI (bU _) h
theorem DU{u d l k:Nat}(h:u+20*(d+1)+200<l)(hk:bm k 20=true):u+k+20*d+200<l:=by
 rw[fG u]; exact ah (eP (au (N hk) (u+20*d)) 200) h
theorem Jc{n d:Nat}(h:n+1<=d):d=d - 1+1:=(dI (Z (ie 1 n) h)).symm
theorem zb{n m:Nat}{c:Int}(h:n<=m)(hc:decide ((m:Int)<c)=true):(n:Int)<c:=ii (gG.mpr h) (of_decide_eq_true hc)
theorem uz{a b n:Nat}(h:bm a b=true):a<=b+n:=Z (N h) (bg b n)
theorem Kz(a b:Nat):ce a<ce b↔b<a:=⟨λh=>dJ λq=>Int.not_le.mpr h (by rw[oz,oz]; exact Int.neg_le_neg (Int.add_le_add_right (gG.mpr q) 1)),λh=>by rw[oz,oz]; exact Int.neg_lt_neg (Int.add_lt_add_right (er.mpr h) 1)⟩
theorem KC(a b:Nat):ce a<(b:Int):=qT (Int.negSucc_lt_zero a) (cY b)
theorem eV  {p0 p1:Prop}{c:Prop}(h:p0/\p1)(f:p0->p1->c):c:=f  h.1 h.2
theorem sE  {p0 p1 p2:Prop}{c:Prop}(h:p0/\p1/\p2)(f:p0->p1->p2->c):c:=f  h.1 h.2.1 h.2.2
theorem Kx  {p0 p1 p2 p3:Prop}{c:Prop}(h:p0/\p1/\p2/\p3)(f:p0->p1->p2->p3->c):c:=f  h.1 h.2.1 h.2.2.1 h.2.2.2
theorem o05  {p0 p1 p2 p3 p4:Prop}{c:Prop}(h:p0/\p1/\p2/\p3/\p4)(f:p0->p1->p2->p3->p4->c):c:=f  h.1 h.2.1 h.2.2.1 h.2.2.2.1 h.2.2.2.2
theorem GU  {p0 p1 p2 p3 p4 p5:Prop}{c:Prop}(h:p0/\p1/\p2/\p3/\p4/\p5)(f:p0->p1->p2->p3->p4->p5->c):c:=f  h.1 h.2.1 h.2.2.1 h.2.2.2.1 h.2.2.2.2.1 h.2.2.2.2.2
theorem ik{α0:Sort _}{p0:α0->Prop}{c:Prop}(h:∃a,p0 a)(f:∀a,p0 a->c):c:=h.elim λa h0=>f a h0
theorem aM{α0:Sort _}{p0 p1:α0->Prop}{c:Prop}(h:∃a,p0 a/\p1 a)(f:∀a,p0 a->p1 a->c):c:=h.elim λa h0=>f a h0.1 h0.2
theorem lL{α0:Sort _}{p0 p1 p2:α0->Prop}{c:Prop}(h:∃a,p0 a/\p1 a/\p2 a)(f:∀a,p0 a->p1 a->p2 a->c):c:=h.elim λa h0=>f a h0.1 h0.2.1 h0.2.2
theorem za{α0:Sort _}{α1:Sort _}{p0:α0->α1->Prop}{c:Prop}(h:∃a,∃b,p0 a b)(f:∀a b,p0 a b->c):c:=h.elim λa h0=>h0.elim λb h1=>f a b h1
theorem oq{α0:Sort _}{α1:Sort _}{p0 p1:α0->α1->Prop}{c:Prop}(h:∃a,∃b,p0 a b/\p1 a b)(f:∀a b,p0 a b->p1 a b->c):c:=h.elim λa h0=>h0.elim λb h1=>f a b h1.1 h1.2
theorem bD{α0:Sort _}{α1:Sort _}{p0 p1 p2:α0->α1->Prop}{c:Prop}(h:∃a,∃b,p0 a b/\p1 a b/\p2 a b)(f:∀a b,p0 a b->p1 a b->p2 a b->c):c:=h.elim λa h0=>h0.elim λb h1=>f a b h1.1 h1.2.1 h1.2.2
theorem J4{α0:Sort _}{α1:Sort _}{p0 p1 p2 p3:α0->α1->Prop}{c:Prop}(h:∃a,∃b,p0 a b/\p1 a b/\p2 a b/\p3 a b)(f:∀a b,p0 a b->p1 a b->p2 a b->p3 a b->c):c:=h.elim λa h0=>h0.elim λb h1=>f a b h1.1 h1.2.1 h1.2.2.1 h1.2.2.2
theorem wq{α0:Sort _}{α1:Sort _}{p0 p1 p2 p3 p4:α0->α1->Prop}{c:Prop}(h:∃a,∃b,p0 a b/\p1 a b/\p2 a b/\p3 a b/\p4 a b)(f:∀a b,p0 a b->p1 a b->p2 a b->p3 a b->p4 a b->c):c:=h.elim λa h0=>h0.elim λb h1=>f a b h1.1 h1.2.1 h1.2.2.1 h1.2.2.2.1 h1.2.2.2.2
theorem o26{α0:Sort _}{α1:Sort _}{p0 p1 p2 p3 p4 p5:α0->α1->Prop}{c:Prop}(h:∃a,∃b,p0 a b/\p1 a b/\p2 a b/\p3 a b/\p4 a b/\p5 a b)(f:∀a b,p0 a b->p1 a b->p2 a b->p3 a b->p4 a b->p5 a b->c):c:=h.elim λa h0=>h0.elim λb h1=>f a b h1.1 h1.2.1 h1.2.2.1 h1.2.2.2.1 h1.2.2.2.2.1 h1.2.2.2.2.2
theorem o29{α0:Sort _}{α1:Sort _}{p0 p1 p2 p3 p4 p5 p6 p7 p8:α0->α1->Prop}{c:Prop}(h:∃a,∃b,p0 a b/\p1 a b/\p2 a b/\p3 a b/\p4 a b/\p5 a b/\p6 a b/\p7 a b/\p8 a b)(f:∀a b,p0 a b->p1 a b->p2 a b->p3 a b->p4 a b->p5 a b->p6 a b->p7 a b->p8 a b->c):c:=h.elim λa h0=>h0.elim λb h1=>f a b h1.1 h1.2.1 h1.2.2.1 h1.2.2.2.1 h1.2.2.2.2.1 h1.2.2.2.2.2.1 h1.2.2.2.2.2.2.1 h1.2.2.2.2.2.2.2.1 h1.2.2.2.2.2.2.2.2
theorem o31{α0:Sort _}{α1:Sort _}{α2:Sort _}{p0:α0->α1->α2->Prop}{c:Prop}(h:∃a,∃b,∃w,p0 a b w)(f:∀a b w,p0 a b w->c):c:=h.elim λa h0=>h0.elim λb h1=>h1.elim λw h2=>f a b w h2
theorem wo{α0:Sort _}{α1:Sort _}{α2:Sort _}{p0 p1:α0->α1->α2->Prop}{c:Prop}(h:∃a,∃b,∃w,p0 a b w/\p1 a b w)(f:∀a b w,p0 a b w->p1 a b w->c):c:=h.elim λa h0=>h0.elim λb h1=>h1.elim λw h2=>f a b w h2.1 h2.2
theorem lW{α0:Sort _}{α1:Sort _}{α2:Sort _}{p0 p1 p2:α0->α1->α2->Prop}{c:Prop}(h:∃a,∃b,∃w,p0 a b w/\p1 a b w/\p2 a b w)(f:∀a b w,p0 a b w->p1 a b w->p2 a b w->c):c:=h.elim λa h0=>h0.elim λb h1=>h1.elim λw h2=>f a b w h2.1 h2.2.1 h2.2.2
theorem mL{α0:Sort _}{α1:Sort _}{α2:Sort _}{p0 p1 p2 p3:α0->α1->α2->Prop}{c:Prop}(h:∃a,∃b,∃w,p0 a b w/\p1 a b w/\p2 a b w/\p3 a b w)(f:∀a b w,p0 a b w->p1 a b w->p2 a b w->p3 a b w->c):c:=h.elim λa h0=>h0.elim λb h1=>h1.elim λw h2=>f a b w h2.1 h2.2.1 h2.2.2.1 h2.2.2.2
theorem o35{α0:Sort _}{α1:Sort _}{α2:Sort _}{p0 p1 p2 p3 p4:α0->α1->α2->Prop}{c:Prop}(h:∃a,∃b,∃w,p0 a b w/\p1 a b w/\p2 a b w/\p3 a b w/\p4 a b w)(f:∀a b w,p0 a b w->p1 a b w->p2 a b w->p3 a b w->p4 a b w->c):c:=h.elim λa h0=>h0.elim λb h1=>h1.elim λw h2=>f a b w h2.1 h2.2.1 h2.2.2.1 h2.2.2.2.1 h2.2.2.2.2
theorem Jg{α0:Sort _}{α1:Sort _}{α2:Sort _}{p0 p1 p2 p3 p4 p5:α0->α1->α2->Prop}{c:Prop}(h:∃a,∃b,∃w,p0 a b w/\p1 a b w/\p2 a b w/\p3 a b w/\p4 a b w/\p5 a b w)(f:∀a b w,p0 a b w->p1 a b w->p2 a b w->p3 a b w->p4 a b w->p5 a b w->c):c:=h.elim λa h0=>h0.elim λb h1=>h1.elim λw h2=>f a b w h2.1 h2.2.1 h2.2.2.1 h2.2.2.2.1 h2.2.2.2.2.1 h2.2.2.2.2.2
theorem o41{α0:Sort _}{α1:Sort _}{α2:Sort _}{α3:Sort _}{p0:α0->α1->α2->α3->Prop}{c:Prop}(h:∃a,∃b,∃w,∃x,p0 a b w x)(f:∀a b w x,p0 a b w x->c):c:=h.elim λa h0=>h0.elim λb h1=>h1.elim λw h2=>h2.elim λx h3=>f a b w x h3
theorem Jf{α0:Sort _}{α1:Sort _}{α2:Sort _}{α3:Sort _}{p0 p1:α0->α1->α2->α3->Prop}{c:Prop}(h:∃a,∃b,∃w,∃x,p0 a b w x/\p1 a b w x)(f:∀a b w x,p0 a b w x->p1 a b w x->c):c:=h.elim λa h0=>h0.elim λb h1=>h1.elim λw h2=>h2.elim λx h3=>f a b w x h3.1 h3.2
theorem o43{α0:Sort _}{α1:Sort _}{α2:Sort _}{α3:Sort _}{p0 p1 p2:α0->α1->α2->α3->Prop}{c:Prop}(h:∃a,∃b,∃w,∃x,p0 a b w x/\p1 a b w x/\p2 a b w x)(f:∀a b w x,p0 a b w x->p1 a b w x->p2 a b w x->c):c:=h.elim λa h0=>h0.elim λb h1=>h1.elim λw h2=>h2.elim λx h3=>f a b w x h3.1 h3.2.1 h3.2.2
theorem o46{α0:Sort _}{α1:Sort _}{α2:Sort _}{α3:Sort _}{p0 p1 p2 p3 p4 p5:α0->α1->α2->α3->Prop}{c:Prop}(h:∃a,∃b,∃w,∃x,p0 a b w x/\p1 a b w x/\p2 a b w x/\p3 a b w x/\p4 a b w x/\p5 a b w x)(f:∀a b w x,p0 a b w x->p1 a b w x->p2 a b w x->p3 a b w x->p4 a b w x->p5 a b w x->c):c:=h.elim λa h0=>h0.elim λb h1=>h1.elim λw h2=>h2.elim λx h3=>f a b w x h3.1 h3.2.1 h3.2.2.1 h3.2.2.2.1 h3.2.2.2.2.1 h3.2.2.2.2.2
theorem o51{α0:Sort _}{α1:Sort _}{α2:Sort _}{α3:Sort _}{α4:Sort _}{p0:α0->α1->α2->α3->α4->Prop}{c:Prop}(h:∃a,∃b,∃w,∃x,∃y,p0 a b w x y)(f:∀a b w x y,p0 a b w x y->c):c:=h.elim λa h0=>h0.elim λb h1=>h1.elim λw h2=>h2.elim λx h3=>h3.elim λy h4=>f a b w x y h4
theorem o52{α0:Sort _}{α1:Sort _}{α2:Sort _}{α3:Sort _}{α4:Sort _}{p0 p1:α0->α1->α2->α3->α4->Prop}{c:Prop}(h:∃a,∃b,∃w,∃x,∃y,p0 a b w x y/\p1 a b w x y)(f:∀a b w x y,p0 a b w x y->p1 a b w x y->c):c:=h.elim λa h0=>h0.elim λb h1=>h1.elim λw h2=>h2.elim λx h3=>h3.elim λy h4=>f a b w x y h4.1 h4.2
theorem o55{α0:Sort _}{α1:Sort _}{α2:Sort _}{α3:Sort _}{α4:Sort _}{p0 p1 p2 p3 p4:α0->α1->α2->α3->α4->Prop}{c:Prop}(h:∃a,∃b,∃w,∃x,∃y,p0 a b w x y/\p1 a b w x y/\p2 a b w x y/\p3 a b w x y/\p4 a b w x y)(f:∀a b w x y,p0 a b w x y->p1 a b w x y->p2 a b w x y->p3 a b w x y->p4 a b w x y->c):c:=h.elim λa h0=>h0.elim λb h1=>h1.elim λw h2=>h2.elim λx h3=>h3.elim λy h4=>f a b w x y h4.1 h4.2.1 h4.2.2.1 h4.2.2.2.1 h4.2.2.2.2
theorem o64{α0:Sort _}{α1:Sort _}{α2:Sort _}{α3:Sort _}{α4:Sort _}{α5:Sort _}{p0 p1 p2 p3:α0->α1->α2->α3->α4->α5->Prop}{c:Prop}(h:∃a,∃b,∃w,∃x,∃y,∃z,p0 a b w x y z/\p1 a b w x y z/\p2 a b w x y z/\p3 a b w x y z)(f:∀a b w x y z,p0 a b w x y z->p1 a b w x y z->p2 a b w x y z->p3 a b w x y z->c):c:=h.elim λa h0=>h0.elim λb h1=>h1.elim λw h2=>h2.elim λx h3=>h3.elim λy h4=>h4.elim λz h5=>f a b w x y z h5.1 h5.2.1 h5.2.2.1 h5.2.2.2
theorem o65{α0:Sort _}{α1:Sort _}{α2:Sort _}{α3:Sort _}{α4:Sort _}{α5:Sort _}{p0 p1 p2 p3 p4:α0->α1->α2->α3->α4->α5->Prop}{c:Prop}(h:∃a,∃b,∃w,∃x,∃y,∃z,p0 a b w x y z/\p1 a b w x y z/\p2 a b w x y z/\p3 a b w x y z/\p4 a b w x y z)(f:∀a b w x y z,p0 a b w x y z->p1 a b w x y z->p2 a b w x y z->p3 a b w x y z->p4 a b w x y z->c):c:=h.elim λa h0=>h0.elim λb h1=>h1.elim λw h2=>h2.elim λx h3=>h3.elim λy h4=>h4.elim λz h5=>f a b w x y z h5.1 h5.2.1 h5.2.2.1 h5.2.2.2.1 h5.2.2.2.2
theorem o76{α0:Sort _}{α1:Sort _}{α2:Sort _}{α3:Sort _}{α4:Sort _}{α5:Sort _}{α6:Sort _}{p0 p1 p2 p3 p4 p5:α0->α1->α2->α3->α4->α5->α6->Prop}{c:Prop}(h:∃a,∃b,∃w,∃x,∃y,∃z,∃u,p0 a b w x y z u/\p1 a b w x y z u/\p2 a b w x y z u/\p3 a b w x y z u/\p4 a b w x y z u/\p5 a b w x y z u)(f:∀a b w x y z u,p0 a b w x y z u->p1 a b w x y z u->p2 a b w x y z u->p3 a b w x y z u->p4 a b w x y z u->p5 a b w x y z u->c):c:=h.elim λa h0=>h0.elim λb h1=>h1.elim λw h2=>h2.elim λx h3=>h3.elim λy h4=>h4.elim λz h5=>h5.elim λu h6=>f a b w x y z u h6.1 h6.2.1 h6.2.2.1 h6.2.2.2.1 h6.2.2.2.2.1 h6.2.2.2.2.2
theorem o78{α0:Sort _}{α1:Sort _}{α2:Sort _}{α3:Sort _}{α4:Sort _}{α5:Sort _}{α6:Sort _}{p0 p1 p2 p3 p4 p5 p6 p7:α0->α1->α2->α3->α4->α5->α6->Prop}{c:Prop}(h:∃a,∃b,∃w,∃x,∃y,∃z,∃u,p0 a b w x y z u/\p1 a b w x y z u/\p2 a b w x y z u/\p3 a b w x y z u/\p4 a b w x y z u/\p5 a b w x y z u/\p6 a b w x y z u/\p7 a b w x y z u)(f:∀a b w x y z u,p0 a b w x y z u->p1 a b w x y z u->p2 a b w x y z u->p3 a b w x y z u->p4 a b w x y z u->p5 a b w x y z u->p6 a b w x y z u->p7 a b w x y z u->c):c:=h.elim λa h0=>h0.elim λb h1=>h1.elim λw h2=>h2.elim λx h3=>h3.elim λy h4=>h4.elim λz h5=>h5.elim λu h6=>f a b w x y z u h6.1 h6.2.1 h6.2.2.1 h6.2.2.2.1 h6.2.2.2.2.1 h6.2.2.2.2.2.1 h6.2.2.2.2.2.2.1 h6.2.2.2.2.2.2.2
theorem a0{α0:Sort _}{p0 p1:α0->Prop}(a:α0)(h0:p0 a)(h1:p1 a):∃a,p0 a/\p1 a:=⟨a,h0,h1⟩
theorem lz{α0:Sort _}{p0 p1 p2:α0->Prop}(a:α0)(h0:p0 a)(h1:p1 a)(h2:p2 a):∃a,p0 a/\p1 a/\p2 a:=⟨a,h0,h1,h2⟩
theorem La{α0:Sort _}{p0 p1 p2 p3:α0->Prop}(a:α0)(h0:p0 a)(h1:p1 a)(h2:p2 a)(h3:p3 a):∃a,p0 a/\p1 a/\p2 a/\p3 a:=⟨a,h0,h1,h2,h3⟩
theorem K9{α0:Sort _}{α1:Sort _}{p0:α0->α1->Prop}(a:α0)(b:α1)(h0:p0 a b):∃a,∃b,p0 a b:=⟨a,b,h0⟩
theorem rn{α0:Sort _}{α1:Sort _}{p0 p1:α0->α1->Prop}(a:α0)(b:α1)(h0:p0 a b)(h1:p1 a b):∃a,∃b,p0 a b/\p1 a b:=⟨a,b,h0,h1⟩
theorem bX{α0:Sort _}{α1:Sort _}{p0 p1 p2:α0->α1->Prop}(a:α0)(b:α1)(h0:p0 a b)(h1:p1 a b)(h2:p2 a b):∃a,∃b,p0 a b/\p1 a b/\p2 a b:=⟨a,b,h0,h1,h2⟩
theorem Im{α0:Sort _}{α1:Sort _}{p0 p1 p2 p3:α0->α1->Prop}(a:α0)(b:α1)(h0:p0 a b)(h1:p1 a b)(h2:p2 a b)(h3:p3 a b):∃a,∃b,p0 a b/\p1 a b/\p2 a b/\p3 a b:=⟨a,b,h0,h1,h2,h3⟩
theorem G3{α0:Sort _}{α1:Sort _}{p0 p1 p2 p3 p4:α0->α1->Prop}(a:α0)(b:α1)(h0:p0 a b)(h1:p1 a b)(h2:p2 a b)(h3:p3 a b)(h4:p4 a b):∃a,∃b,p0 a b/\p1 a b/\p2 a b/\p3 a b/\p4 a b:=⟨a,b,h0,h1,h2,h3,h4⟩
theorem m26{α0:Sort _}{α1:Sort _}{p0 p1 p2 p3 p4 p5:α0->α1->Prop}(a:α0)(b:α1)(h0:p0 a b)(h1:p1 a b)(h2:p2 a b)(h3:p3 a b)(h4:p4 a b)(h5:p5 a b):∃a,∃b,p0 a b/\p1 a b/\p2 a b/\p3 a b/\p4 a b/\p5 a b:=⟨a,b,h0,h1,h2,h3,h4,h5⟩
theorem J5{α0:Sort _}{α1:Sort _}{α2:Sort _}{p0 p1:α0->α1->α2->Prop}(a:α0)(b:α1)(w:α2)(h0:p0 a b w)(h1:p1 a b w):∃a,∃b,∃w,p0 a b w/\p1 a b w:=⟨a,b,w,h0,h1⟩
theorem G2{α0:Sort _}{α1:Sort _}{α2:Sort _}{p0 p1 p2:α0->α1->α2->Prop}(a:α0)(b:α1)(w:α2)(h0:p0 a b w)(h1:p1 a b w)(h2:p2 a b w):∃a,∃b,∃w,p0 a b w/\p1 a b w/\p2 a b w:=⟨a,b,w,h0,h1,h2⟩
theorem ub{α0:Sort _}{α1:Sort _}{α2:Sort _}{p0 p1 p2 p3:α0->α1->α2->Prop}(a:α0)(b:α1)(w:α2)(h0:p0 a b w)(h1:p1 a b w)(h2:p2 a b w)(h3:p3 a b w):∃a,∃b,∃w,p0 a b w/\p1 a b w/\p2 a b w/\p3 a b w:=⟨a,b,w,h0,h1,h2,h3⟩
theorem m35{α0:Sort _}{α1:Sort _}{α2:Sort _}{p0 p1 p2 p3 p4:α0->α1->α2->Prop}(a:α0)(b:α1)(w:α2)(h0:p0 a b w)(h1:p1 a b w)(h2:p2 a b w)(h3:p3 a b w)(h4:p4 a b w):∃a,∃b,∃w,p0 a b w/\p1 a b w/\p2 a b w/\p3 a b w/\p4 a b w:=⟨a,b,w,h0,h1,h2,h3,h4⟩
theorem m36{α0:Sort _}{α1:Sort _}{α2:Sort _}{p0 p1 p2 p3 p4 p5:α0->α1->α2->Prop}(a:α0)(b:α1)(w:α2)(h0:p0 a b w)(h1:p1 a b w)(h2:p2 a b w)(h3:p3 a b w)(h4:p4 a b w)(h5:p5 a b w):∃a,∃b,∃w,p0 a b w/\p1 a b w/\p2 a b w/\p3 a b w/\p4 a b w/\p5 a b w:=⟨a,b,w,h0,h1,h2,h3,h4,h5⟩
theorem m42{α0:Sort _}{α1:Sort _}{α2:Sort _}{α3:Sort _}{p0 p1:α0->α1->α2->α3->Prop}(a:α0)(b:α1)(w:α2)(x:α3)(h0:p0 a b w x)(h1:p1 a b w x):∃a,∃b,∃w,∃x,p0 a b w x/\p1 a b w x:=⟨a,b,w,x,h0,h1⟩
theorem m43{α0:Sort _}{α1:Sort _}{α2:Sort _}{α3:Sort _}{p0 p1 p2:α0->α1->α2->α3->Prop}(a:α0)(b:α1)(w:α2)(x:α3)(h0:p0 a b w x)(h1:p1 a b w x)(h2:p2 a b w x):∃a,∃b,∃w,∃x,p0 a b w x/\p1 a b w x/\p2 a b w x:=⟨a,b,w,x,h0,h1,h2⟩
theorem m46{α0:Sort _}{α1:Sort _}{α2:Sort _}{α3:Sort _}{p0 p1 p2 p3 p4 p5:α0->α1->α2->α3->Prop}(a:α0)(b:α1)(w:α2)(x:α3)(h0:p0 a b w x)(h1:p1 a b w x)(h2:p2 a b w x)(h3:p3 a b w x)(h4:p4 a b w x)(h5:p5 a b w x):∃a,∃b,∃w,∃x,p0 a b w x/\p1 a b w x/\p2 a b w x/\p3 a b w x/\p4 a b w x/\p5 a b w x:=⟨a,b,w,x,h0,h1,h2,h3,h4,h5⟩
theorem m55{α0:Sort _}{α1:Sort _}{α2:Sort _}{α3:Sort _}{α4:Sort _}{p0 p1 p2 p3 p4:α0->α1->α2->α3->α4->Prop}(a:α0)(b:α1)(w:α2)(x:α3)(y:α4)(h0:p0 a b w x y)(h1:p1 a b w x y)(h2:p2 a b w x y)(h3:p3 a b w x y)(h4:p4 a b w x y):∃a,∃b,∃w,∃x,∃y,p0 a b w x y/\p1 a b w x y/\p2 a b w x y/\p3 a b w x y/\p4 a b w x y:=⟨a,b,w,x,y,h0,h1,h2,h3,h4⟩
theorem m64{α0:Sort _}{α1:Sort _}{α2:Sort _}{α3:Sort _}{α4:Sort _}{α5:Sort _}{p0 p1 p2 p3:α0->α1->α2->α3->α4->α5->Prop}(a:α0)(b:α1)(w:α2)(x:α3)(y:α4)(z:α5)(h0:p0 a b w x y z)(h1:p1 a b w x y z)(h2:p2 a b w x y z)(h3:p3 a b w x y z):∃a,∃b,∃w,∃x,∃y,∃z,p0 a b w x y z/\p1 a b w x y z/\p2 a b w x y z/\p3 a b w x y z:=⟨a,b,w,x,y,z,h0,h1,h2,h3⟩
variable{α:Type}{M:Model}{A:Around}{Q:α->Shared->Prop}{E:Value->Shared->Prop}{s:Shared}{c:Prop} [Decidable c]{t e:Sem α}
theorem K8(h:c)(k:wpAny M A t Q E s):wpAny M A (if c then t else e) Q E s:=(if_pos h).symm▸k
theorem yq(h:¬c)(k:wpAny M A e Q E s):wpAny M A (if c then t else e) Q E s:=(if_neg h).symm▸k
theorem dZ{a b:Bool}(h:(a&&b)=true):a=true/\b=true:=(aZ a b)▸h
theorem qF{b:Bool}(h:(!b)=true):b=false:=by cases b with | false=>rfl | true=>exact h.symm
theorem ux{a x c:Nat}(hu:a+20<c)(hd:x<=7):a+x<c:=ah (au (Z hd (N rfl)) a) hu
theorem tj{β:Type}{m:Sem α}{f:α->Sem β}{Q:β->Shared->Prop}{P:(α->Shared->Prop)->Prop}(h:∀Q':α->Shared->Prop,P Q'->wpAny M A m Q' E s)(k:P λa s'=>wpAny M A (f a) Q E s'):wpAny M A (m>>=f) Q E s:=wpAny_bind (h _ k)
theorem bx{β:Type}{m:Sem α}{f:α->Sem β}{Q:β->Shared->Prop}{a:α}{s':Shared}(h:∀Q':α->Shared->Prop,Q' a s'->wpAny M A m Q' E s)(k:wpAny M A (f a) Q E s'):wpAny M A (m>>=f) Q E s:=wpAny_bind (h _ k)
theorem l1(a b e f:Nat){x y:Nat}(h:x+a<=y+b)(q:bm (e+b) (f+a)=true):x+e<=y+f:=by have:=N q; lia
theorem lc(a b c d e f:Nat){x y z:Nat}(h:x+a<=y+b)(k:y+c<=z+d)(q:bm (e+b+d) (f+a+c)=true):x+e<=z+f:=by have:=N q; lia
theorem adl{a j k c:Nat}(h:a+k<c)(q:bm j k=true):a+j<c:=ah (au (N q) a) h
theorem adz{a k c:Nat}(h:a+k<c):a<c:=ah (bg a k) h
theorem zn{a:Nat}{c:Prop}(h:a<0):c:=absurd h (cF a)
theorem zi{a:Nat}{c:Prop}(h:a<a):c:=absurd h (eU a)
end
inductive V where
 | none
 | bool (b:Bool)
 | int (i:Int)
 | str (x:Str)
 | tup (ds:List V)
 | fl (ds:List V)
 | ref (i:Nat)
 | val (v:Value)
 | rng (x y:Int)
 | st (b:Bool)(ks:List V)
 | pk (p:Addr->List Value->Obj->Prop)(ds:List V)
inductive O where
 | list (ds:List V)
 | dict (kvs:List (V×V))
 | inst (c:Addr)(fs:List (Str×V))
 | cell (v:Option V)
 | exc (c:Addr)(fo:Option (List (Str×V)))
 | pk (p:Addr->List Value->Obj->Prop)(ds:List V)
structure aK where
 nx:Nat
 get:Nat->Option O
noncomputable def aK.push(σ:aK)(o:O):aK:=⟨σ.nx+1,λi=>if i=σ.nx then some o else σ.get i⟩
noncomputable def aK.set(σ:aK)(i:Nat)(o:O):aK:=⟨σ.nx,λj=>if j=i then some o else σ.get j⟩
theorem u0(σ:aK)(o:O)(i:Nat):(σ.push o).get i=if i=σ.nx then some o else σ.get i:=rfl
theorem wB(σ:aK)(o:O):(σ.push o).nx=σ.nx+1:=rfl
theorem qr(σ:aK)(i:Nat)(o:O)(j:Nat):(σ.set i o).get j=if j=i then some o else σ.get j:=rfl
noncomputable abbrev Loc:=Str->Option V
noncomputable def Loc.set(l:Loc)(x:Str)(v:V):Loc:=λy=>if y=x then some v else l y
inductive AB where
 | free
 | froz (o:Obj)
 | held (o:Obj)
 | fr (m:Str->Option Value)
 | main (i:Nat)
 | dict (i:Nat)
noncomputable abbrev ac:=Addr->AB
noncomputable abbrev aN(vs:List Value):Obj:={ cls:=.type "tuple",data:=.seq vs.toArray }
noncomputable abbrev aR(vs:List Value)(n:Nat):Obj:={ cls:=.type "list",data:=.seq vs.toArray n }
noncomputable abbrev bY(es:List DictEntry)(n:Nat):Obj:={ cls:=.type "dict",data:=.dict es.toArray n }
noncomputable abbrev D6(x y:Int)(t u w:Tok):Obj:={ cls:=.type "range",data:=.fields #[.int x t,.int y u,.int 1 w] }
noncomputable abbrev c0(es:Array (Int×Value))(n:Nat)(t:SetTable):Obj:={ cls:=.type "set",data:=.set es n t }
mutual
def VR(g:ac):V->Value->Prop
 | .none,v=>v=.none
 | .bool b,v=>v=.bool b
 | .int i,v=>∃t,v=.int i t
 | .str x,v=>∃t,v=.str x t
 | .tup ds,v=>∃a vs,v=.ref a/\g a=.froz (aN vs)/\d0 g ds vs
 | .fl ds,v=>∃a vs n,v=.ref a/\g a=.froz (aR vs n)/\d0 g ds vs
 | .ref i,v=>∃a,v=.ref a/\g a=.main i
 | .val u,v=>v=u
 | .rng x y,v=>∃a t u w,v=.ref a/\g a=.froz (D6 x y t u w)
 | .pk p ds,v=>∃a vs o,v=.ref a/\g a=.froz o/\p a vs o/\d0 g ds vs
 | .st b ks,v=>∃a es n t vs,v=.ref a/\g a=.froz (c0 es n t)/\(t.fits es.size=true/\t.led=b/\(t.plain=false∨es.size<=1))/\d0 g ks vs/\(es.toList.map (·.2)).Perm vs
def d0(g:ac):List V->List Value->Prop
 | [],vs=>vs=[]
 | d::ds,vs=>∃v r,vs=v::r/\VR g d v/\d0 g ds r
end
def F7(g:ac):Option V->Option Value->Prop
 | none,v=>v=none
 | some d,v=>∃u,v=some u/\VR g d u
def dA(g g':ac):Prop:=∀a,g a≠.free->g' a=g a
theorem dA.refl(g:ac):dA g g:=λJ J=>rfl
theorem dA.trans{g g' g'':ac}(x:dA g g')(y:dA g' g''):dA g g'':=λa h=>by
 have e:=x a h
 rw[<-e] at h ⊢
 exact y a h
theorem dA.at{g g':ac}(x:dA g g'){a:Addr}{t:AB}(h:g a=t)(ht:t≠.free):g' a=t:=by
 rw[<-h] at ht ⊢; exact x a ht
def AB.solid:AB->Prop
 | .froz _ | .main _ | .dict _=>True
 | _=>False
def dN(g g':ac):Prop:=∀a,(g a).solid->g' a=g a
theorem dN.refl(g:ac):dN g g:=λJ J=>rfl
theorem dN.trans{g g' g'':ac}(x:dN g g')(y:dN g' g''):dN g g'':=λa h=>by
 have e:=x a h
 rw[<-e] at h ⊢
 exact y a h
theorem dN.at{g g':ac}(x:dN g g'){a:Addr}{t:AB}(h:g a=t)(ht:t.solid):g' a=t:=by
 rw[<-h] at ht ⊢; exact x a ht
theorem dA.v{g g':ac}(x:dA g g'):dN g g':=λa h=>x a (by intro e; rw[e] at h; exact h)
theorem VR.ext{g g':ac}(x:dN g g'){d:V}:∀{v:Value},VR g d v->VR g' d v:=
 V.rec (motive_1:=λd=>∀{v:Value},VR g d v->VR g' d v) (motive_2:=λds=>∀{vs:List Value},d0 g ds vs->d0 g' ds vs)
  (λh=>h) (λJ J h=>h) (λJ J h=>h) (λJ J h=>h)
  (λJ ih J h=>bD h λa vs e t r=>bX a vs e (x.at t trivial) (ih r))
  (λJ ih J h=>lW h λa vs n e t r=>G2 a vs n e (x.at t trivial) (ih r))
  (λJ J h=>aM h λa e t=>a0 a e (x.at t trivial)) (λJ J h=>h)
  (λJ J J h=>Jf h λa t u w e h=>m42 a t u w e (x.at h trivial))
  (λJ J ih J h=>o55 h λa es n t vs e h f r p=>m55 a es n t vs e (x.at h trivial) f (ih r) p)
  (λJ J ih J h=>mL h λa vs o e t q r=>ub a vs o e (x.at t trivial) q (ih r))
  (λh=>h) (λJ J iha ihb J h=>bD h λv r e a b=>bX v r e (iha a) (ihb b)) d
theorem d0.ext{g g':ac}(x:dN g g'){ds:List V}:∀{vs:List Value},d0 g ds vs->d0 g' ds vs:=by
 induction ds with
 | nil=>exact @λJ h=>h
 | cons _ _ ih=>exact @λJ h=>bD h λv r e a b=>bX v r e (a.ext x) (ih b)
theorem F7.ext{g g':ac}(x:dN g g'){d:Option V}{v:Option Value}(h:F7 g d v):F7 g' d v:=by
 cases d with
 | none=>exact h
 | some d=>refine aM h λu e r=>?_; exact a0 u e (r.ext x)
theorem d0.length{g:ac}{ds:List V}:∀{vs:List Value},d0 g ds vs->ds.length=vs.length:=by
 induction ds with
 | nil=>exact @λJ h=>by cases h; rfl
 | cons _ _ ih=>
  intro _ z1
  refine bD z1 λJ J e J b=>?_
  exact by cases e; simp[ih b]
theorem d0.get{g:ac}:∀{ds:List V}{vs:List Value}{i:Nat}{d:V},d0 g ds vs->ds[i]?=some d->∃v,vs[i]?=some v/\VR g d v:=by
 intro ds
 induction ds with
 | nil=>exact @λJ J J J h=>by cases h
 | cons _ _ ih=>
  intro vs i d z h
  refine bD z λv r e a b=>?_
  subst e
  cases i with
  | zero=>cases h; exact a0 v rfl a
  | succ i=>exact ih (i:=i) b h
theorem d0.append{g:ac}{ds:List V}:∀{es:List V}{vs us:List Value},d0 g ds vs->d0 g es us->d0 g (ds++es) (vs++us):=by
 induction ds with
 | nil=>exact @λJ J J h h'=>by cases h; exact h'
 | cons _ _ ih=>
  intro _ _ _ z3 h'
  refine bD z3 λv r e a b=>?_
  exact by cases e; exact bX v (r++_) rfl a (ih b h')
theorem d0.take{g:ac}:∀{ds:List V}{vs:List Value}(n:Nat),d0 g ds vs->d0 g (ds.take n) (vs.take n)
 | _,_,0,_=>rfl
 | [],_,_+1,h=>by cases h; rfl
 | _::_,_,n+1,⟨v,r,e,a,b⟩=>by cases e; exact bX v (r.take n) rfl a (d0.take n b)
theorem d0.drop{g:ac}:∀{ds:List V}{vs:List Value}(n:Nat),d0 g ds vs->d0 g (ds.drop n) (vs.drop n)
 | _,_,0,h=>h
 | [],_,_+1,h=>by cases h; rfl
 | _::_,_,n+1,⟨v,r,e,a,b⟩=>by cases e; exact d0.drop n b
theorem d0.reverse{g:ac}{ds:List V}:∀{vs:List Value},d0 g ds vs->d0 g ds.reverse vs.reverse:=by
 induction ds with
 | nil=>exact @λJ h=>by cases h; rfl
 | cons _ _ ih=>
  intro _ z1
  refine bD z1 λv r e a b=>?_
  subst e
  simp only[iB,iB]
  exact d0.append (ih b) (bX v [] rfl a rfl)
def ER(P:Params)(g:ac)(hk:V->Int)(kv:V×V)(e:DictEntry):Prop:=e.hash=hk kv.1/\VR g kv.1 e.key/\VR g kv.2 e.val
def tI(P:Params)(g:ac)(hk:V->Int):List (V×V)->List DictEntry->Prop
 | [],es=>es=[]
 | kv::r,es=>∃e t,es=e::t/\ER P g hk kv e/\tI P g hk r t
theorem tI.ext{P:Params}{g g':ac}{hk:V->Int}(x:dN g g'){kvs:List (V×V)}:∀{es:List DictEntry},tI P g hk kvs es->tI P g' hk kvs es:=by
 induction kvs with
 | nil=>exact @λJ h=>h
 | cons _ _ ih=>
  intro _ z1
  obtain⟨e,t,q,⟨a1,a2,a3⟩,b⟩:=z1
  exact bX e t q ⟨a1,a2.ext x,a3.ext x⟩ (ih b)
theorem tI.length{P:Params}{g:ac}{hk:V->Int}{kvs:List (V×V)}:∀{es:List DictEntry},tI P g hk kvs es->kvs.length=es.length:=by
 induction kvs with
 | nil=>exact @λJ h=>by cases h; rfl
 | cons _ _ ih=>
  intro _ z1
  refine bD z1 λJ J e J b=>?_
  exact by cases e; simp[ih b]
noncomputable def wd:V->WData
 | .none=>.none
 | .bool b=>.bool b
 | .int i=>.int i
 | .str x=>.str x
 | .tup ds=>.tuple (wds ds)
 | _=>.list []
where wds:List V->List WData
 | []=>[]
 | d::r=>wd d::wds r
noncomputable def lm(P:Params)(k:V):Int:=hashW P (wd k)
noncomputable def Lf:List (V×V)->List V
 | []=>[]
 | kv::r=>kv.1::kv.2::Lf r
def Bw(P:Params):List (V×V)->List Value->List DictEntry->Prop
 | [],vs,es=>vs=[]/\es=[]
 | kv::r,vs,es=>∃e t w,es=e::t/\vs=e.key::e.val::w/\e.hash=lm P kv.1/\Bw P r w t
theorem tI.flat{P:Params}{g:ac}{kvs:List (V×V)}:∀{es:List DictEntry},tI P g (lm P) kvs es->∃vs,d0 g (Lf kvs) vs/\Bw P kvs vs es:=by
 induction kvs with
 | nil=>exact @λJ h=>by cases h; exact lz [] rfl rfl rfl
 | cons kv r ih=>
  intro _ z1
  obtain⟨e,t,q,⟨h1,h2,h3⟩,hr⟩:=z1
  subst q
  refine aM (ih hr) λw hw hd=>?_
  exact⟨e.key::e.val::w,⟨_,_,rfl,h2,_,_,rfl,h3,hw⟩,e,t,w,rfl,rfl,h1,hd⟩
theorem wN{P:Params}{g:ac}:∀{kvs:List (V×V)}{es:List DictEntry}{vs:List Value},d0 g (Lf kvs) vs->Bw P kvs vs es->tI P g (lm P) kvs es:=by
 intro kvs
 induction kvs with
 | nil=>exact @λJ J J h=>h.2
 | cons kv r ih=>
  intro es vs h1 h2
  refine mL h2 λe t w e1 e2 e3 hd=>bX e t e1 ?_ ?_
  ·subst e2
   refine bD h1 λv r1 e4 h3 h4=>bD h4 λu r2 e5 h6 J=>?_
   exact⟨e3,(kI e4).1▸h3,(kI ((kI e4).2.trans e5)).1▸h6⟩
  ·subst e2
   exact bD h1 λv r1 e4 J h4=>bD h4 λu r2 e5 J hr=>ih ((kI ((kI e4).2.trans e5)).2▸hr) hd
def wv(P:Params)(g:ac):List (Str×V)->List DictEntry->Prop
 | [],es=>es=[]
 | (x,d)::r,es=>∃t v l,es=⟨ci P x,.str x t,v⟩::l/\VR g d v/\wv P g r l
theorem wv.ext{P:Params}{g g':ac}(x:dN g g'){fs:List (Str×V)}:∀{es:List DictEntry},wv P g fs es->wv P g' fs es:=by
 induction fs with
 | nil=>exact @λJ h=>h
 | cons hd0 _ ih=>
  obtain⟨_,_⟩:=hd0
  intro _ z1
  refine lW z1 λt v l q a b=>?_
  exact G2 t v l q (a.ext x) (ih b)
def tA(P:Params)(g:ac)(h:Heap)(i:Nat)(od:Option Addr):Option (List (Str×V))->Prop
 | none=>od=none
 | some fs=>∃d es n,od=some d/\g d=.dict i/\h.get? d=some (bY es n)/\wv P g fs es
def OR(P:Params)(g:ac)(h:Heap)(i:Nat)(a:Addr):O->Prop
 | .list ds=>∃vs n,h.get? a=some (aR vs n)/\d0 g ds vs
 | .dict kvs=>∃es n,a≠sysModules/\h.get? a=some (bY es n)/\tI P g (lm P) kvs es
 | .inst c fs=>∃d es n,h.get? a=some (instObj c d)/\g d=.dict i/\h.get? d=some (bY es n)/\wv P g fs es
 | .cell v=>∃o u,h.get? a=some o/\o.data=.cell u/\F7 g v u
 | .exc c fo=>∃o vs,h.get? a=some o/\o.cls=.ref c/\o.data=.fields vs/\(vs.size=6/\vs[1]?=some .none)/\tA P g h i o.dict fo
 | .pk p ds=>∃vs o,h.get? a=some o/\p a vs o/\d0 g ds vs
structure Cx where
 prog:Program
 w:World
 H0:Heap
 K:Frag
 os:OsState
 top:Program
 loose:List Str
 mg:Str->Option Value
 mb:Str->Option Value
structure Cx.Ok(C:Cx):Prop where
 kin:C.K.In C.H0
 T:TopRead C.top C.loose C.mg C.mb C.H0
 big:∃a:Addr,sysModules<a/\C.H0.get? a≠none
structure bV(C:Cx)(g:ac)(σ:aK)(s:Shared):Prop where
 ok:C.Ok
 base:∀b o,C.H0.get? b=some o->s.heap.get? b=some o
 has:∀a,g a≠.free->∃o,s.heap.get? a=some o
 old:∀a,C.H0.get? a≠none->(∃o,g a=.froz o)∨g a=.free
 froz:∀a o,g a=.froz o->s.heap.get? a=some o
 held:∀a o,g a=.held o->s.heap.get? a=some o
 fr:∀a m,g a=.fr m->s.heap.Ns a m
 uniq:∀a b i,g a=.main i->g b=.main i->a=b
 idx:∀a i,g a=.main i->i<σ.nx
 idxd:∀a i,g a=.dict i->i<σ.nx
 objs:∀i o,σ.get i=some o->∃a,g a=.main i/\OR C.w.params g s.heap i a o
 gens:s.gens=#[]
 os:s.os=C.os
theorem bV.lt{C:Cx}{g:ac}{σ:aK}{s:Shared}(R:bV C g σ s){a:Addr}(h:g a≠.free):a<s.heap.objs.size:=
 ik (R.has a h) λJ e=>aJ e
theorem bV.free_size{C:Cx}{g:ac}{σ:aK}{s:Shared}(R:bV C g σ s){a:Addr}(h:s.heap.objs.size<=a):g a=.free:=by
 by_cases q:g a=.free
 ·exact q
 ·exact absurd (R.lt q) (kX.mpr h)
theorem bV.h0_size{C:Cx}{g:ac}{σ:aK}{s:Shared}(R:bV C g σ s){a:Addr}(h:s.heap.objs.size<=a):C.H0.get? a=none:=by
 cases q:C.H0.get? a with
 | none=>rfl
 | some o=>exact absurd (aJ (R.base a o q)) (kX.mpr h)
theorem bV.kin{C:Cx}{g:ac}{σ:aK}{s:Shared}(R:bV C g σ s):C.K.In s.heap:=R.ok.kin.keeps R.base
theorem bV.top{C:Cx}{g:ac}{σ:aK}{s:Shared}(R:bV C g σ s):TopRead C.top C.loose C.mg C.mb s.heap:=R.ok.T.keeps R.base
theorem bV.big{C:Cx}{g:ac}{σ:aK}{s:Shared}(R:bV C g σ s){a:Addr}(h:s.heap.objs.size<=a):a≠sysModules:=by
 refine aM R.ok.big λb hb e=>?_
 obtain⟨o,e⟩:=Option.ne_none_iff_exists'.mp e
 have h2:=aJ (R.base b o e)
 exact bP (af (cI hb h2) h)
theorem bV.h0_none{C:Cx}{g:ac}{σ:aK}{s:Shared}(R:bV C g σ s){a:Addr}(h:g a≠.free)(h':∀o,g a≠.froz o):C.H0.get? a=none:=by
 by_cases q:C.H0.get? a=none
 ·exact q
 ·refine dn (R.old a q) (λhq=>ik hq λo e=>?_) (λe=>?_)
  ·exact absurd e (h' o)
  ·exact absurd e h
theorem tA.ext{P:Params}{g g':ac}(x:dN g g'){h:Heap}{i:Nat}{od:Option Addr}{fo:Option (List (Str×V))}(r:tA P g h i od fo):tA P g' h i od fo:=by
 cases fo with
 | none=>exact r
 | some _=>exact mL r λd es n e t e' r=>ub d es n e (x.at t trivial) e' (r.ext x)
theorem tA.same{P:Params}{g:ac}{h h':Heap}{i:Nat}{od:Option Addr}(k:∀b,g b=.dict i->∀o,h.get? b=some o->h'.get? b=some o){fo:Option (List (Str×V))}(r:tA P g h i od fo):tA P g h' i od fo:=by
 cases fo with
 | none=>exact r
 | some _=>exact mL r λd es n e t e' r=>ub d es n e t (k d t _ e') r
theorem OR.ext{P:Params}{g g':ac}(x:dN g g'){h:Heap}{i:Nat}{a:Addr}{o:O}(r:OR P g h i a o):OR P g' h i a o:=by
 cases o with
 | list ds=>refine oq r λvs n e r=>?_; exact rn vs n e (r.ext x)
 | dict kvs=>refine bD r λes n ns e r=>?_; exact bX es n ns e (r.ext x)
 | inst c fs=>refine mL r λd es n e t e' r=>?_; exact ub d es n e (x.at t trivial) e' (r.ext x)
 | cell v=>refine bD r λo u e e' r=>?_; exact bX o u e e' (r.ext x)
 | exc c fo=>refine wq r λo vs e e1 e2 e3 r=>?_; exact G3 o vs e e1 e2 e3 (r.ext x)
 | pk p ds=>refine bD r λvs o e q r=>?_; exact bX vs o e q (r.ext x)
theorem OR.same{P:Params}{g:ac}{h h':Heap}{i:Nat}{a:Addr}{o:O}(r:OR P g h i a o)(k:∀b,(g b=.main i/\b=a)∨g b=.dict i->∀o,h.get? b=some o->h'.get? b=some o)(ha:g a=.main i):OR P g h' i a o:=by
 cases o with
 | list ds=>refine oq r λvs n e r=>?_; exact rn vs n (k a (.inl ⟨ha,rfl⟩) _ e) r
 | dict kvs=>refine bD r λes n ns e r=>?_; exact bX es n ns (k a (.inl ⟨ha,rfl⟩) _ e) r
 | inst c fs=>refine mL r λd es n e t e' r=>?_; exact ub d es n (k a (.inl ⟨ha,rfl⟩) _ e) t (k d (.inr t) _ e') r
 | cell v=>refine bD r λo u e e' r=>?_; exact bX o u (k a (.inl ⟨ha,rfl⟩) _ e) e' r
 | exc c fo=>refine wq r λo vs e e1 e2 e3 r=>?_; exact G3 o vs (k a (.inl ⟨ha,rfl⟩) _ e) e1 e2 e3 (r.same λb t o e=>k b (.inr t) o e)
 | pk p ds=>refine bD r λvs o e q r=>?_; exact bX vs o (k a (.inl ⟨ha,rfl⟩) _ e) q r
theorem bV.keeps{C:Cx}{g:ac}{σ:aK}{s s':Shared}(R:bV C g σ s)(k:∀b o,s.heap.get? b=some o->s'.heap.get? b=some o)(hg:s'.gens=s.gens:=by rfl)(ho:s'.os=s.os:=by rfl):bV C g σ s' where
 ok:=R.ok
 base:=λb o e=>k b o (R.base b o e)
 has:=λa h=>ik (R.has a h) λo e=>⟨o,k a o e⟩
 old:=R.old
 froz:=λa o h=>k a o (R.froz a o h)
 held:=λa o h=>k a o (R.held a o h)
 fr:=λa m h=>(R.fr a m h).keeps k
 uniq:=R.uniq
 idx:=R.idx
 idxd:=R.idxd
 objs:=λi o h=>aM (R.objs i o h) λa t r=>(a0 a t (r.same (λb J o e=>k b o e) t))
 gens:=hg.trans R.gens
 os:=ho.trans R.os
theorem bV.toks{C:Cx}{g:ac}{σ:aK}{s:Shared}(R:bV C g σ s)(n:Nat):bV C g σ { s with toks:=n }:=R.keeps λJ J e=>e
theorem bV.push{C:Cx}{g:ac}{σ:aK}{s:Shared}(R:bV C g σ s)(o:Obj):bV C g σ { s with heap:=s.heap.push o }:=R.keeps λJ J e=>ab o e
theorem bV.keepsT{C:Cx}{g:ac}{σ:aK}{s s':Shared}(R:bV C g σ s)(k:∀b o,(g b≠.free∨C.H0.get? b≠none)->s.heap.get? b=some o->s'.heap.get? b=some o)(hg:s'.gens=s.gens:=by rfl)(ho:s'.os=s.os:=by rfl):bV C g σ s' where
 ok:=R.ok
 base:=λb o e=>k b o (.inr (by rw[e]; intro h; cases h)) (R.base b o e)
 has:=λa h=>ik (R.has a h) λo e=>⟨o,k a o (.inl h) e⟩
 old:=R.old
 froz:=λa o h=>k a o (.inl (by rw[h]; intro h; cases h)) (R.froz a o h)
 held:=λa o h=>k a o (.inl (by rw[h]; intro h; cases h)) (R.held a o h)
 fr:=λa m h=>(R.fr a m h).at' λo e=>k a o (.inl (by rw[h]; intro h; cases h)) e
 uniq:=R.uniq
 idx:=R.idx
 idxd:=R.idxd
 objs:=λi o h=>aM (R.objs i o h) λa t r=>(a0 a t (r.same (λb hb o e=>k b o (.inl (by rcases hb with ⟨hb,_⟩ | hb<;>(rw[hb]; intro h; cases h))) e) t))
 gens:=hg.trans R.gens
 os:=ho.trans R.os
noncomputable def ac.put(g:ac)(a:Addr)(t:AB):ac:=λb=>if b=a then t else g b
theorem aC(g:ac)(a:Addr)(t:AB):g.put a t a=t:=by simp[ac.put]
theorem a9(g:ac){a b:Addr}(t:AB)(h:b≠a):g.put a t b=g b:=by simp[ac.put,h]
theorem dA.put{g:ac}{a:Addr}(h:g a=.free)(t:AB):dA g (g.put a t):=λb hb=>a9 g t λe=>hb (e▸h)
theorem dN.put{g:ac}{a:Addr}(h:¬(g a).solid)(t:AB):dN g (g.put a t):=λb hb=>a9 g t λe=>h (e▸hb)
def AB.fits(t:AB)(h:Heap)(a:Addr)(H0:Heap):Prop:=match t with
 | .free=>True
 | .froz o=>h.get? a=some o
 | .held o=>h.get? a=some o/\H0.get? a=none
 | .fr m=>h.Ns a m/\H0.get? a=none
 | _=>False
theorem bV.retag{C:Cx}{g:ac}{σ:aK}{s:Shared}{a:Addr}{t:AB}(R:bV C g σ s)(h:¬(g a).solid)(f:t.fits s.heap a C.H0):bV C (g.put a t) σ s where
 ok:=R.ok
 base:=R.base
 has:=λb hb=>by
  by_cases q:b=a
  ·subst q; rw[aC] at hb
   cases t with
   | free=>exact absurd rfl hb
   | froz o=>exact⟨o,f⟩
   | held o=>exact⟨o,f.1⟩
   | fr m=>obtain⟨⟨o,_,_,e,_⟩,_⟩:=f; exact⟨o,e⟩
   | main i=>exact f.elim
   | dict i=>exact f.elim
  ·exact R.has b (by rwa [a9 g _ q] at hb)
 old:=λb hb=>by
  by_cases q:b=a
  ·subst q; rw[aC]
   cases t with
   | free=>exact .inr rfl
   | froz o=>exact .inl ⟨o,rfl⟩
   | held o=>exact absurd f.2 hb
   | fr m=>exact absurd f.2 hb
   | main i=>exact f.elim
   | dict i=>exact f.elim
  ·rw[a9 g _ q]; exact R.old b hb
 froz:=λb o' hb=>by
  by_cases q:b=a
  ·subst q; rw[aC] at hb; subst hb; exact f
  ·rw[a9 g _ q] at hb; exact R.froz b o' hb
 held:=λb o' hb=>by
  by_cases q:b=a
  ·subst q; rw[aC] at hb; subst hb; exact f.1
  ·rw[a9 g _ q] at hb; exact R.held b o' hb
 fr:=λb o' hb=>by
  by_cases q:b=a
  ·subst q; rw[aC] at hb; subst hb; exact f.1
  ·rw[a9 g _ q] at hb; exact R.fr b o' hb
 uniq:=λb c i hb hc=>by
  by_cases q:b=a
  ·subst q; rw[aC] at hb; subst hb; exact f.elim
  ·by_cases q':c=a
   ·subst q'; rw[aC] at hc; subst hc; exact f.elim
   ·rw[a9 g _ q] at hb; rw[a9 g _ q'] at hc; exact R.uniq b c i hb hc
 idx:=λb i hb=>by
  by_cases q:b=a
  ·subst q; rw[aC] at hb; subst hb; exact f.elim
  ·rw[a9 g _ q] at hb; exact R.idx b i hb
 idxd:=λb i hb=>by
  by_cases q:b=a
  ·subst q; rw[aC] at hb; subst hb; exact f.elim
  ·rw[a9 g _ q] at hb; exact R.idxd b i hb
 objs:=λi o' hi=>by
  refine aM (R.objs i o' hi) λb t r=>?_
  exact a0 b ((dN.put h _).at t trivial) (r.ext (dN.put h _))
 gens:=R.gens
 os:=R.os
theorem bV.forget{C:Cx}{g:ac}{σ σ':aK}{s:Shared}(R:bV C g σ s)(h:∀i o,σ'.get i=some o->σ.get i=some o)(hx:σ.nx<=σ'.nx):bV C g σ' s:=
 ⟨R.ok,R.base,R.has,R.old,R.froz,R.held,R.fr,R.uniq,λa i e=>af (R.idx a i e) hx,λa i e=>af (R.idxd a i e) hx,λi o e=>R.objs i o (h i o e),R.gens,R.os⟩
theorem bV.fill{C:Cx}{g:ac}{σ:aK}{s:Shared}{a:Addr}{o:O}{k:Nat}(R:bV C g σ s)(hk:k<σ.nx)(hno:∀b,g b≠.main k)(h:g a=.free)(h0:C.H0.get? a=none)(e:OR C.w.params (g.put a (.main k)) s.heap k a o)(he:∃o,s.heap.get? a=some o) :
  bV C (g.put a (.main k)) (σ.set k o) s:=by
 have hs:¬(g a).solid:=by rw[h]; exact λx=>x
 refine⟨R.ok,R.base,?_,?_,?_,?_,?_,?_,?_,?_,?_,R.gens,R.os⟩
 ·intro b hb
  by_cases q:b=a
  ·exact q▸he
  ·exact R.has b (by rwa [a9 g _ q] at hb)
 ·intro b hb
  by_cases q:b=a
  ·exact absurd (q▸h0) hb
  ·rw[a9 g _ q]; exact R.old b hb
 ·intro b o' hb
  by_cases q:b=a
  ·rw[q,aC] at hb; cases hb
  ·rw[a9 g _ q] at hb; exact R.froz b o' hb
 ·intro b o' hb
  by_cases q:b=a
  ·rw[q,aC] at hb; cases hb
  ·rw[a9 g _ q] at hb; exact R.held b o' hb
 ·intro b o' hb
  by_cases q:b=a
  ·rw[q,aC] at hb; cases hb
  ·rw[a9 g _ q] at hb; exact R.fr b o' hb
 ·intro b c i hb hc
  by_cases q:b=a
  ·by_cases q':c=a
   ·rw[q,q']
   ·rw[q,aC] at hb; cases hb; rw[a9 g _ q'] at hc; exact absurd hc (hno c)
  ·rw[a9 g _ q] at hb
   by_cases q':c=a
   ·rw[q',aC] at hc; cases hc; exact absurd hb (hno b)
   ·rw[a9 g _ q'] at hc; exact R.uniq b c i hb hc
 ·intro b i hb
  by_cases q:b=a
  ·rw[q,aC] at hb; cases hb; exact hk
  ·rw[a9 g _ q] at hb; exact R.idx b i hb
 ·intro b i hb
  by_cases q:b=a
  ·rw[q,aC] at hb; cases hb
  ·rw[a9 g _ q] at hb; exact R.idxd b i hb
 ·intro i o' hi
  rw[qr] at hi
  split at hi
  ·rename_i q; cases hi; rw[q]; exact a0 a (aC ..) e
  ·refine aM (R.objs i o' hi) λb t r=>?_
   exact a0 b ((dN.put hs _).at t trivial) (r.ext (dN.put hs _))
noncomputable def aK.bump(σ:aK):aK:=⟨σ.nx+1,σ.get⟩
theorem bV.bump{C:Cx}{g:ac}{σ:aK}{s:Shared}(R:bV C g σ s):bV C g σ.bump s:=R.forget (λJ J h=>h) (cr _)
theorem bV.newMain{C:Cx}{g:ac}{σ:aK}{s:Shared}{a:Addr}{o:O}(R:bV C g σ s)(h:g a=.free)(h0:C.H0.get? a=none)(e:OR C.w.params (g.put a (.main σ.nx)) s.heap σ.nx a o)(he:∃o,s.heap.get? a=some o) :
  bV C (g.put a (.main σ.nx)) (σ.push o) s:=
 R.bump.fill (bU _) (λb q=>eU _ (R.idx b _ q)) h h0 e he
theorem bV.newDict{C:Cx}{g:ac}{σ:aK}{s:Shared}{d:Addr}{i:Nat}(R:bV C g σ s)(hi:i<σ.nx)(h:g d=.free)(h0:C.H0.get? d=none)(he:∃o,s.heap.get? d=some o):bV C (g.put d (.dict i)) σ s:=by
 have hs:¬(g d).solid:=by rw[h]; exact λx=>x
 refine⟨R.ok,R.base,?_,?_,?_,?_,?_,?_,?_,?_,?_,R.gens,R.os⟩
 ·intro b hb
  by_cases q:b=d
  ·exact q▸he
  ·exact R.has b (by rwa [a9 g _ q] at hb)
 ·intro b hb
  by_cases q:b=d
  ·exact absurd (q▸h0) hb
  ·rw[a9 g _ q]; exact R.old b hb
 ·intro b o' hb
  by_cases q:b=d
  ·rw[q,aC] at hb; cases hb
  ·rw[a9 g _ q] at hb; exact R.froz b o' hb
 ·intro b o' hb
  by_cases q:b=d
  ·rw[q,aC] at hb; cases hb
  ·rw[a9 g _ q] at hb; exact R.held b o' hb
 ·intro b o' hb
  by_cases q:b=d
  ·rw[q,aC] at hb; cases hb
  ·rw[a9 g _ q] at hb; exact R.fr b o' hb
 ·intro b c j hb hc
  by_cases q:b=d
  ·rw[q,aC] at hb; cases hb
  ·by_cases q':c=d
   ·rw[q',aC] at hc; cases hc
   ·rw[a9 g _ q] at hb; rw[a9 g _ q'] at hc; exact R.uniq b c j hb hc
 ·intro b j hb
  by_cases q:b=d
  ·rw[q,aC] at hb; cases hb
  ·rw[a9 g _ q] at hb; exact R.idx b j hb
 ·intro b j hb
  by_cases q:b=d
  ·rw[q,aC] at hb; cases hb; exact hi
  ·rw[a9 g _ q] at hb; exact R.idxd b j hb
 ·intro j o' hj
  refine aM (R.objs j o' hj) λb t r=>?_
  exact a0 b ((dN.put hs _).at t trivial) (r.ext (dN.put hs _))
theorem bV.upd{C:Cx}{g:ac}{σ:aK}{s s':Shared}{a b:Addr}{i:Nat}{o:O}(R:bV C g σ s)(ta:g a=.main i)(tb:b=a∨g b=.dict i)(k:∀c o,c≠b->s.heap.get? c=some o->s'.heap.get? c=some o)
  (he:∃o,s'.heap.get? b=some o)(e:OR C.w.params g s'.heap i a o)(hg:s'.gens=s.gens:=by rfl)(ho:s'.os=s.os:=by rfl):bV C g (σ.set i o) s':=by
 have nb:∀{c t},g c=t->t≠.main i->t≠.dict i->c≠b:=by
  intro c t ht h1 h2 q
  subst q
  rcases tb with rfl | tb
  ·exact h1 (ht.symm.trans ta)
  ·exact h2 (ht.symm.trans tb)
 have b0:C.H0.get? b=none:=R.h0_none (by rcases tb with rfl | tb<;>simp[*]) (by rcases tb with rfl | tb<;>simp[*])
 refine⟨R.ok,λc o q=>k c o (λz=>?_) (R.base c o q),?_,R.old,?_,?_,?_,R.uniq,R.idx,R.idxd,?_,hg.trans R.gens,ho.trans R.os⟩
 ·rw[z,b0] at q; cases q
 ·intro c hc
  by_cases q:c=b
  ·exact q▸he
  ·obtain⟨o,e⟩:=R.has c hc; exact⟨o,k c o q e⟩
 ·intro c o' hc
  exact k c o' (nb hc (by intro h; cases h) (by intro h; cases h)) (R.froz c o' hc)
 ·intro c o' hc
  exact k c o' (nb hc (by intro h; cases h) (by intro h; cases h)) (R.held c o' hc)
 ·intro c m hc
  exact(R.fr c m hc).at' λo' q=>k c o' (nb hc (by intro h; cases h) (by intro h; cases h)) q
 ·intro j o' hj
  rw[qr] at hj
  split at hj
  ·rename_i q; cases hj; rw[q]; exact a0 a ta e
  ·rename_i q
   refine aM (R.objs j o' hj) λc t r=>?_
   refine a0 c t (r.same (λz hz o'' e''=>k z o'' ?_ e'') t)
   rcases hz with ⟨hz,_⟩ | hz<;>exact nb hz (by intro h; cases h<;>exact q rfl) (by intro h; cases h<;>exact q rfl)
def eG(L:Addr)(g g':ac):Prop:=∀a,a≠L->g a≠.free->g' a=g a
theorem eG.refl(L:Addr)(g:ac):eG L g g:=λJ J J=>rfl
theorem eG.trans{L:Addr}{g g' g'':ac}(x:eG L g g')(y:eG L g' g''):eG L g g'':=λa n h=>by
 have e:=x a n h
 rw[<-e] at h ⊢
 exact y a n h
theorem dA.l{g g':ac}(L:Addr)(x:dA g g'):eG L g g':=λa J h=>x a h
theorem eG.v{L:Addr}{g g':ac}(x:eG L g g')(h:¬(g L).solid):dN g g':=λa ha=>by
 by_cases q:a=L
 ·exact absurd (q▸ha) h
 ·exact x a q (by intro e; rw[e] at ha; exact ha)
theorem eG.put{L:Addr}(g:ac)(t:AB):eG L g (g.put L t):=λJ n J=>a9 g t n
noncomputable abbrev Cx.M(C:Cx):Model:=model C.prog C.w
structure bc where
 P:Addr->ac->Option (List Env)->Value->Shared->Prop
 monoL:∀{L:Addr}{g g':ac}{f:Option (List Env)}{e:Value}{s:Shared},eG L g g'->P L g' f e s->P L g f e s
noncomputable def bc.none:bc:=⟨λJ J J J J=>False,λJ h=>h⟩
theorem bc.mono(X:bc){L:Addr}{g g':ac}{f:Option (List Env)}{e:Value}{s:Shared}(x:dA g g')(h:X.P L g' f e s):X.P L g f e s:=X.monoL (x.l L) h
structure En where
 sc:Scope
 cells:List (Str×Nat)
 d:Nat
 calm:Bool
 fn:Option (Value×Str)
def gD(g:ac)(env:Env):Prop:=env.scope.kind≠.module/\∃L m,env.frame=some L/\g L=.fr m
structure Ar(g:ac)(d:Nat)(calm:Bool)(A:Around):Prop where
 depth:A.depth+2*d<recursionLimit
 units:A.units+20*d+200<cLine
 calm:calm=true->A.handled=.none
 frames:∃l,A.frames=some l/\∀env∈l,gD g env
 guards:A.guards=some []
structure qn(W:En)(g:ac)(L:Addr)(cenv:Env):Prop where
 sc:cenv.scope=W.sc
 kind:W.sc.kind=.function
 loc:cenv.locals=L
 glob:cenv.globals=mainGlobals
 blt:cenv.builtins=builtinsNs
 cells:∀x i,W.cells.lookup x=some i->∃a,cenv.cells.lookup x=some a/\g a=.main i
 frame:gD g cenv
 fn:∀c q,W.fn=some (c,q)->cenv.code=c/\cenv.qual=q
def jU(g:ac)(l:Loc)(m:Str->Option Value):Prop:=∀x,F7 g (l x) (m x)
structure kU(C:Cx)(W:En)(l:Loc)(σ:aK)(g:ac)(A:Around)(cenv:Env)(L:Addr)(m:Str->Option Value)(s:Shared):Prop where
 R:bV C g σ s
 E:qn W g L cenv
 A:Ar g W.d W.calm A
 fm:g L=.fr m
 fl:jU g l m
theorem gD.ext{g g':ac}{env:Env}(x:dA g g')(h:gD g env):gD g' env:=
 let ⟨k,L,m,e,t⟩:=h; ⟨k,L,m,e,x.at t (by intro h; cases h)⟩
theorem Ar.ext{g g':ac}{d:Nat}{c:Bool}{A:Around}(x:dA g g')(h:Ar g d c A):Ar g' d c A:=
 ⟨h.depth,h.units,h.calm,aM h.frames λl e k=>(a0 l e (λenv he=>(k env he).ext x)),h.guards⟩
theorem qn.ext{W:En}{g g':ac}{L:Addr}{cenv:Env}(x:dA g g')(h:qn W g L cenv):qn W g' L cenv:=
 ⟨h.sc,h.kind,h.loc,h.glob,h.blt,λy i e=>aM (h.cells y i e) λa e1 t=>(a0 a e1 (x.at t (by intro h; cases h))),h.frame.ext x,h.fn⟩
theorem jU.ext{g g':ac}{l:Loc}{m:Str->Option Value}(x:dN g g')(h:jU g l m):jU g' l m:=λy=>(h y).ext x
theorem kU.step{C:Cx}{W:En}{l:Loc}{σ σ':aK}{g g':ac}{A:Around}{cenv:Env}{L:Addr}{m:Str->Option Value}{s s':Shared}(p:kU C W l σ g A cenv L m s)(x:dA g g')(R:bV C g' σ' s'):kU C W l σ' g' A cenv L m s':=
 ⟨R,p.E.ext x,p.A.ext x,x.at p.fm (by intro h; cases h),p.fl.ext x.v⟩
set_option genSizeOf false
set_option genInjectivity false
inductive Up(C:Cx)(g:ac)(Q:V->aK->Prop)(v:Value)(s':Shared):Prop
 | mk (d:V)(g':ac)(σ':aK)(x:dA g g')(R:bV C g' σ' s')(hv:VR g' d v)(q:Q d σ')
inductive tr(C:Cx)(g:ac)(Q:Bool->aK->Prop)(b:Bool)(s':Shared):Prop
 | mk (g':ac)(σ':aK)(x:dA g g')(R:bV C g' σ' s')(q:Q b σ')
inductive UpL(C:Cx)(g:ac)(Q:List V->aK->Prop)(vs:List Value)(s':Shared):Prop
 | mk (ds:List V)(g':ac)(σ':aK)(x:dA g g')(R:bV C g' σ' s')(hv:d0 g' ds vs)(q:Q ds σ')
theorem Up.back{C:Cx}{g g':ac}{Q:V->aK->Prop}{v:Value}{s':Shared}(x:dA g g')(h:Up C g' Q v s'):Up C g Q v s':=
 let ⟨d,g'',σ',y,r,r2,r3⟩:=h; ⟨d,g'',σ',x.trans y,r,r2,r3⟩
theorem tr.back{C:Cx}{g g':ac}{Q:Bool->aK->Prop}{v:Bool}{s':Shared}(x:dA g g')(h:tr C g' Q v s'):tr C g Q v s':=
 let ⟨g'',σ',y,r,r2⟩:=h; ⟨g'',σ',x.trans y,r,r2⟩
def SE(C:Cx)(X:bc)(W:En)(e:Expr)(l:Loc)(σ:aK)(Q:V->aK->Prop):Prop:=
 ∀g A cenv L m s,kU C W l σ g A cenv L m s->wpAny C.M A (eval e cenv) (Up C g Q) (X.P L g A.frames) s
def ST(C:Cx)(X:bc)(W:En)(e:Expr)(l:Loc)(σ:aK)(Q:Bool->aK->Prop):Prop:=
 ∀g A cenv L m s,kU C W l σ g A cenv L m s->wpAny C.M A (isTrue e cenv (eval e cenv)) (tr C g Q) (X.P L g A.frames) s
def SV(C:Cx)(X:bc)(W:En)(σ:aK)(ds:List V)(t:List Value->Sem Value)(Q:V->aK->Prop):Prop:=
 ∀g A L s vs,bV C g σ s->Ar g W.d W.calm A->d0 g ds vs->wpAny C.M A (t vs) (Up C g Q) (X.P L g A.frames) s
section
variable{C:Cx}{X:bc}{W:En}{l:Loc}{σ:aK}{Q:V->aK->Prop}{P:Bool->aK->Prop}
theorem SE.mono{Q':V->aK->Prop}{e:Expr}(h:SE C X W e l σ Q)(k:∀d σ',Q d σ'->Q' d σ'):SE C X W e l σ Q':=
 λg A cenv L m s p=>wpAny_mono (h g A cenv L m s p) (λJ J ⟨d,g',σ',x,R,v,q⟩=>⟨d,g',σ',x,R,v,k _ _ q⟩) λJ J h=>h
theorem SE.then{e:Expr}{g:ac}{A:Around}{cenv:Env}{L:Addr}{m:Str->Option Value}{s:Shared}{α:Type}{f:Value->Sem α}{Qc:α->Shared->Prop}{Q₁:V->aK->Prop}(p:kU C W l σ g A cenv L m s)(h:SE C X W e l σ Q₁)
  (k:∀d v g' σ' s',dA g g'->kU C W l σ' g' A cenv L m s'->VR g' d v->Q₁ d σ'->wpAny C.M A (f v) Qc (X.P L g A.frames) s'):wpAny C.M A (eval e cenv) (λv s'=>wpAny C.M A (f v) Qc (X.P L g A.frames) s') (X.P L g A.frames) s:=
 wpAny_mono (h g A cenv L m s p) (λv s' ⟨d,g',σ',x,R,hv,q⟩=>k d v g' σ' s' x (p.step x R) hv q) λJ J h=>h
theorem ST.then{e:Expr}{g:ac}{A:Around}{cenv:Env}{L:Addr}{m:Str->Option Value}{s:Shared}{Qc:Bool->Shared->Prop}{Q₁:Bool->aK->Prop}(p:kU C W l σ g A cenv L m s)(h:ST C X W e l σ Q₁)
  (k:∀b g' σ' s',dA g g'->kU C W l σ' g' A cenv L m s'->Q₁ b σ'->Qc b s'):wpAny C.M A (isTrue e cenv (eval e cenv)) Qc (X.P L g A.frames) s:=
 wpAny_mono (h g A cenv L m s p) (λb s' ⟨g',σ',x,R,q⟩=>k b g' σ' s' x (p.step x R) q) λJ J h=>h
theorem fR{α:Type}{t:Sem α}{g g':ac}{A:Around}{L:Addr}{s:Shared}{Qc Qc':α->Shared->Prop}(x:dA g g')(h:wpAny C.M A t Qc' (X.P L g' A.frames) s)(k:∀a s,Qc' a s->Qc a s):wpAny C.M A t Qc (X.P L g A.frames) s:=
 wpAny_mono h k λJ J h=>X.mono x h
theorem Up.here{C:Cx}{g:ac}{σ:aK}{s:Shared}{d:V}{v:Value}{Q:V->aK->Prop}(R:bV C g σ s)(h:VR g d v)(q:Q d σ):Up C g Q v s:=⟨d,g,σ,dA.refl g,R,h,q⟩
theorem tr.here{C:Cx}{g:ac}{σ:aK}{s:Shared}{b:Bool}{Q:Bool->aK->Prop}(R:bV C g σ s)(q:Q b σ):tr C g Q b s:=⟨g,σ,dA.refl g,R,q⟩
theorem SE.none{k pos}(h:Q .none σ):SE C X W (.Constant .none k pos) l σ Q:=λJ J J J J J p=>wpAny_Constant_none (Up.here (d:=.none) p.R rfl h)
theorem SE.bool{b k pos}(h:Q (.bool b) σ):SE C X W (.Constant (.bool b) k pos) l σ Q:=λJ J J J J J p=>wpAny_Constant_bool (Up.here (d:=.bool b) p.R rfl h)
theorem SE.int{i k pos}(h:Q (.int i) σ):SE C X W (.Constant (.int i) k pos) l σ Q:=λJ J J J J J p=>wpAny_Constant_int (Up.here (d:=.int i) (p.R.toks _) ⟨_,rfl⟩ h)
theorem SE.str{x k pos}(h:Q (.str x) σ):SE C X W (.Constant (.str x) k pos) l σ Q:=λJ J J J J J p=>wpAny_Constant_str (Up.here (d:=.str x) (p.R.toks _) ⟨_,rfl⟩ h)
theorem qn.kindOf{g:ac}{L:Addr}{cenv:Env}(h:qn W g L cenv)(x:Str):cenv.kindOf x=W.sc.names.lookup x:=by
 show cenv.scope.names.lookup x=_; rw[h.sc]
theorem qn.ckind{g:ac}{L:Addr}{cenv:Env}(h:qn W g L cenv):cenv.scope.kind=.function:=by rw[h.sc]; exact h.kind
theorem SE.local{x:Str}{pos:Pos}{d:V}(hk:W.sc.names.lookup x=some .local)(hv:l x=some d)(hd:(x==("__debug__":Str))=false)(h:Q d σ):SE C X W (.Name x pos) l σ Q:=λg A cenv L m s p=>by
 have e:=p.fl x
 rw[hv] at e
 refine aM e λu e r=>?_
 exact wpAny_Name (wpAny_loadName_local p.E.ckind ((p.E.kindOf x).trans hk) (p.E.loc▸p.R.fr L m p.fm) e (Up.here p.R r h)) hd
theorem bV.cellAt{g:ac}{s:Shared}{a:Addr}{i:Nat}{d:V}(R:bV C g σ s)(t:g a=.main i)(h:σ.get i=some (.cell (some d))):∃v,s.heap.IsCell a (some v)/\VR g d v:=by
 obtain⟨b,tb,o,u,e,e',r⟩:=R.objs i _ h
 obtain rfl:=R.uniq a b i t tb
 obtain⟨v,rfl,r⟩:=r
 exact a0 v ⟨o,e,e'⟩ r
theorem SE.cell{x:Str}{pos:Pos}{d:V}{i:Nat}(hk:W.sc.names.lookup x=some .cell∨W.sc.names.lookup x=some .free)(hc:W.cells.lookup x=some i)(hv:σ.get i=some (.cell (some d)))
  (hd:(x==("__debug__":Str))=false)(hn:(x==("__classdict__":Str))=false)(h:Q d σ):SE C X W (.Name x pos) l σ Q:=λg A cenv L m s p=>by
 refine aM (p.E.cells x i hc) λa e t=>?_
 refine aM (p.R.cellAt t hv) λv hcv r=>?_
 rcases hk with hk | hk
 ·exact wpAny_Name (wpAny_loadName_cell p.E.ckind ((p.E.kindOf x).trans hk) e hcv (Up.here p.R r h)) hd
 ·exact wpAny_Name (wpAny_loadName_free p.E.ckind ((p.E.kindOf x).trans hk) e hcv (Up.here p.R r h) hn) hd
theorem SE.glob{x:Str}{pos:Pos}{v:Value}(hk:W.sc.names.lookup x=some .globalImplicit)(hg:C.mg x=some v)(hd:(x==("__debug__":Str))=false)(h:Q (.val v) σ):SE C X W (.Name x pos) l σ Q:=λg A cenv L m s p=>by
 exact Name_function_global p.E.ckind ((p.E.kindOf x).trans hk) (loadGlobal_global ((p.E.glob)▸p.R.top.g) hg (Up.here (d:=.val v) p.R rfl h)) hd
theorem SE.blt{x:Str}{pos:Pos}{v:Value}(hk:W.sc.names.lookup x=some .globalImplicit)(hg:C.mg x=.none)(hb:C.mb x=some v)(hd:(x==("__debug__":Str))=false)(h:Q (.val v) σ):SE C X W (.Name x pos) l σ Q:=λg A cenv L m s p=>by
 exact Name_function_global p.E.ckind ((p.E.kindOf x).trans hk) (loadGlobal_builtin (by rw[p.E.glob]; exact p.R.top.g) hg (by rw[p.E.blt]; exact p.R.top.b) hb (Up.here (d:=.val v) p.R rfl h)) hd
theorem SV.use1{g:ac}{A:Around}{L:Addr}{s:Shared}{σ:aK}{d:V}{v:Value}{t:List Value->Sem Value}(h:SV C X W σ [d] t Q)(R:bV C g σ s)(a:Ar g W.d W.calm A)(hv:VR g d v):wpAny C.M A (t [v]) (Up C g Q) (X.P L g A.frames) s:=
 h g A L s [v] R a (bX v [] rfl hv rfl)
theorem SV.use2{g:ac}{A:Around}{L:Addr}{s:Shared}{σ:aK}{d d':V}{v v':Value}{t:List Value->Sem Value}(h:SV C X W σ [d,d'] t Q)(R:bV C g σ s)(a:Ar g W.d W.calm A)(hv:VR g d v)(hv':VR g d' v'):wpAny C.M A (t [v,v']) (Up C g Q) (X.P L g A.frames) s:=
 h g A L s [v,v'] R a ⟨v,[v'],rfl,hv,v',[],rfl,hv',rfl⟩
noncomputable def tY(op:Operator):List Value->Sem Value
 | [a,b]=>binaryOp op a b
 | _=>unsupported ""
noncomputable def jA(op:CmpOp):List Value->Sem Value
 | [a,b]=>compareOp op a b
 | _=>unsupported ""
noncomputable def tUn(op:UnaryOp):List Value->Sem Value
 | [a]=>unaryOp op a
 | _=>unsupported ""
theorem SE.two{a b:Expr}{t:List Value->Sem Value}{g:ac}{A:Around}{cenv:Env}{L:Addr}{m:Str->Option Value}{s:Shared}(p:kU C W l σ g A cenv L m s)
  (h:SE C X W a l σ λx aA=>SE C X W b l aA λy aT=>SV C X W aT [x,y] t Q) :
  wpAny C.M A (eval a cenv) (λv aQ=>wpAny C.M A (eval b cenv) (λu b8=>wpAny C.M A (t [v,u]) (Up C g Q) (X.P L g A.frames) b8) (X.P L g A.frames) aQ) (X.P L g A.frames) s:=by
 refine wpAny_mono (h g A cenv L m s p) ?_ λJ J h=>h
 rintro v aQ ⟨x,cj,aA,bH,b7,hv,q⟩
 have cf:=p.step bH b7
 refine wpAny_mono (q cj A cenv L m aQ cf) ?_ λJ J h=>X.mono bH h
 rintro u b8 ⟨y,dR,aT,eN,dM,hu,mh⟩
 exact wpAny_mono (mh.use2 dM (cf.step eN dM).A (hv.ext eN.v) hu) (λJ J h=>Up.back (bH.trans eN) h) λJ J h=>X.mono (bH.trans eN) h
theorem SE.bin{a b:Expr}{op:Operator}{pos:Pos}(h:SE C X W a l σ λx aA=>SE C X W b l aA λy aT=>SV C X W aT [x,y] (tY op) Q):SE C X W (.BinOp a op b pos) l σ Q:=λJ J J J J J p=>
 wpAny_BinOp (SE.two p h)
theorem SE.cmp{a b:Expr}{op:CmpOp}{pos:Pos}(hm:behindInMarks op b=false)(h:SE C X W a l σ λx aA=>SE C X W b l aA λy aT=>SV C X W aT [x,y] (jA op) Q):SE C X W (.Compare a [op] [b] pos) l σ Q:=λJ J J J J J p=>
 wpAny_Compare1 (SE.two p h) hm
theorem SE.un{a:Expr}{op:UnaryOp}{pos:Pos}(h:SE C X W a l σ λx aA=>SV C X W aA [x] (tUn op) Q):SE C X W (.UnaryOp op a pos) l σ Q:=λg A cenv L m s p=>
 wpAny_UnaryOp (SE.then p h λx v cj aA aQ bH cf hv q=>fR bH (q.use1 cf.R cf.A hv) λJ J h=>h.back bH)
theorem SE.ifExp{t a b:Expr}{pos:Pos}(h:ST C X W t l σ λc aA=>if c=true then SE C X W a l aA Q else SE C X W b l aA Q):SE C X W (.IfExp t a b pos) l σ Q:=λg A cenv L m s p=>
 wpAny_IfExp (ST.then p h λc cj aA aQ bH cf q=>by
  cases c with
  | false=>exact fR bH (q cj A cenv L m aQ cf) λJ J h=>h.back bH
  | true=>exact fR bH (q cj A cenv L m aQ cf) λJ J h=>h.back bH)
theorem ST.cmp{a b:Expr}{op:CmpOp}{pos:Pos}(hm:behindInMarks op b=false)(h:SE C X W a l σ λx aA=>SE C X W b l aA λy aT=>SV C X W aT [x,y] (jA op) λd ez=>∃c,d=.bool c/\P c ez):ST C X W (.Compare a [op] [b] pos) l σ P:=λg A cenv L m s p=>by
 refine wpAny_isTrue_Compare1 (wpAny_mono (SE.two p h) ?_ λJ J h=>h) hm
 intro v aQ iq
 refine wpAny_mono iq ?_ λJ J h=>h
 intro u b8 jy
 refine wpAny_mono jy ?_ λJ J h=>h
 rintro c uW ⟨d,rR,ez,ml,k0,hc,k,rfl,hP⟩
 obtain rfl:c=.bool k:=hc
 exact wpAny_truthy_bool (tr.back ml (tr.here k0 hP))
noncomputable def pY:Expr->Bool
 | .UnaryOp .Not _ _ | .BoolOp .. | .IfExp .. | .Compare ..=>false
 | _=>true
set_option tactic.hygienic true in
theorem qb{e:Expr}{env:Env}{whole:Sem Value}(h:pY e=true):isTrue e env whole=(do let v <-whole; standAt e.pos; holding [v] (truthy v)):=by
 cases e<;>first | rfl | exact nt h | skip
 rename_i op _ _
 cases op<;>first | rfl | exact nt h
theorem ST.val{e:Expr}(hp:pY e=true)(h:SE C X W e l σ λd aA=>∃c,d=.bool c/\P c aA):ST C X W e l σ P:=λg A cenv L m s p=>by
 rw[qb hp]
 refine wpAny_bind (SE.then p h λd v cj aA aQ bH cf hv q=>?_)
 refine aM q λc e1r hP=>?_
 subst e1r
 obtain rfl:=hv
 exact wpAny_bind (wpAny_standAt (wpAny_holding (wpAny_truthy_bool (tr.back bH (tr.here cf.R hP)))))
theorem ST.not{e:Expr}{pos:Pos}(h:ST C X W e l σ λb aA=>P (!b) aA):ST C X W (.UnaryOp .Not e pos) l σ P:=λg A cenv L m s p=>
 wpAny_isTrue_Not (ST.then p h λJ J J J bH cf q=>tr.back bH (tr.here cf.R q))
def SA(C:Cx)(X:bc)(W:En)(op:PySem.BoolOp)(es:List Expr)(l:Loc)(σ:aK)(Q:Bool->aK->Prop):Prop:=
 ∀g A cenv L m s,kU C W l σ g A cenv L m s->wpAny C.M A (allTrue op es cenv) (tr C g Q) (X.P L g A.frames) s
theorem SA.nilAnd(h:P true σ):SA C X W .And [] l σ P:=λJ J J J J J p=>wpAny_allTrue_And_nil (tr.here p.R h)
theorem SA.nilOr(h:P false σ):SA C X W .Or [] l σ P:=λJ J J J J J p=>wpAny_allTrue_Or_nil (tr.here p.R h)
theorem SA.consAnd{e:Expr}{r:List Expr}(h:ST C X W e l σ λb aA=>if b=true then SA C X W .And r l aA P else P false aA):SA C X W .And (e::r) l σ P:=λg A cenv L m s p=>by
 show wpAny C.M A (do match BoolOp.And,<-isTrue e cenv (eval e cenv) with
  | .And,false=>pure false
  | .Or,true=>pure true
  | _,_=>allTrue .And r cenv) _ _ _
 refine wpAny_bind (ST.then p h λb cj aA aQ bH cf q=>?_)
 cases b with
 | false=>exact wpAny_pure (tr.back bH (tr.here cf.R q))
 | true=>exact fR bH (q cj A cenv L m aQ cf) λJ J h=>h.back bH
theorem SA.consOr{e:Expr}{r:List Expr}(h:ST C X W e l σ λb aA=>if b=true then P true aA else SA C X W .Or r l aA P):SA C X W .Or (e::r) l σ P:=λg A cenv L m s p=>by
 show wpAny C.M A (do match BoolOp.Or,<-isTrue e cenv (eval e cenv) with
  | .And,false=>pure false
  | .Or,true=>pure true
  | _,_=>allTrue .Or r cenv) _ _ _
 refine wpAny_bind (ST.then p h λb cj aA aQ bH cf q=>?_)
 cases b with
 | true=>exact wpAny_pure (tr.back bH (tr.here cf.R q))
 | false=>exact fR bH (q cj A cenv L m aQ cf) λJ J h=>h.back bH
theorem ST.boolOp{op:PySem.BoolOp}{es:List Expr}{pos:Pos}(h:SA C X W op es l σ P):ST C X W (.BoolOp op es pos) l σ P:=λg A cenv L m s p=>wpAny_isTrue_BoolOp (h g A cenv L m s p)
theorem SE.and2{a b:Expr}{pos:Pos}(h:SE C X W a l σ λd aA=>∃c,d=.bool c/\if c=true then SE C X W b l aA Q else Q (.bool false) aA):SE C X W (.BoolOp .And [a,b] pos) l σ Q:=λg A cenv L m s p=>by
 refine wpAny_And2 (wpAny_mono (h g A cenv L m s p) ?_ λJ J h=>h)
 rintro v aQ ⟨d,cj,aA,bH,b7,hv,c,rfl,q⟩
 obtain rfl:v=.bool c:=hv
 refine wpAny_truthy_bool ?_
 cases c with
 | false=>exact⟨.bool false,cj,aA,bH,b7,rfl,q⟩
 | true=>exact fR bH (q cj A cenv L m aQ (p.step bH b7)) λJ J h=>Up.back bH h
def SL(C:Cx)(X:bc)(W:En)(es:List Expr)(l:Loc)(σ:aK)(Q:List V->aK->Prop):Prop:=
 ∀pos g A cenv L m s,kU C W l σ g A cenv L m s->wpAny C.M A (spliced (backTo pos (starEach es cenv))) (UpL C g Q) (X.P L g A.frames) s
noncomputable def dW:Expr->Bool
 | .Starred ..=>false
 | _=>true
theorem iL{e:Expr}{r:List Expr}{env:Env}(h:dW e=true):starEach (e::r) env=(false,eval e env)::starEach r env:=by
 cases e<;>first | rfl | exact nt h
theorem SL.nil{QL:List V->aK->Prop}(h:QL [] σ):SL C X W [] l σ QL:=λJ g J J J J J p=>wpAny_items_nil ⟨[],g,σ,dA.refl g,p.R,rfl,h⟩
theorem SL.cons{QL:List V->aK->Prop}{e:Expr}{r:List Expr}(hs:dW e=true)(h:SE C X W e l σ λd aA=>SL C X W r l aA λds aT=>QL (d::ds) aT):SL C X W (e::r) l σ QL:=λpos g A cenv L m s p=>by
 rw[iL hs]
 show wpAny C.M A (do
  let v <-eval e cenv
  let here <-(pure [v]:Sem (List Value))
  return here++(<-holding here (spliced (backTo pos (starEach r cenv))))) _ _ _
 refine wpAny_bind (SE.then p h λd v cj aA aQ bH cf hv q=>?_)
 refine wpAny_bind (wpAny_pure (wpAny_bind (wpAny_holding (fR bH (q pos cj A cenv L m aQ cf) ?_))))
 rintro vs b8 ⟨ds,dR,aT,eN,dM,hvs,mh⟩
 exact wpAny_pure ⟨d::ds,dR,aT,bH.trans eN,dM,(bX v vs rfl (hv.ext eN.v) hvs),mh⟩
theorem bV.newFroz{g:ac}{σ:aK}{s:Shared}(R:bV C g σ s)(o:Obj)(hf:o.isFreed=false):bV C (g.put s.heap.objs.size (.froz o)) σ { s with heap:=s.heap.push o }/\dA g (g.put s.heap.objs.size (.froz o)):=
 have hfree:=R.free_size (ad s.heap.objs.size)
 ⟨(R.push o).retag ((hfree)▸λx=>x) (show(s.heap.push o).get? s.heap.objs.size=some o from ak _ hf),dA.put hfree _⟩
theorem wT{g:ac}{A:Around}{s:Shared}{σ:aK}{ds:List V}{vs:List Value}{E:Value->Shared->Prop}(R:bV C g σ s)(h:d0 g ds vs)(hz:ds.length<=1000000)(q:Q (.tup ds) σ):wpAny C.M A (newTuple vs) (Up C g Q) E s:=by
 refine eV (R.newFroz (aN vs) rfl) λR' x=>?_
 exact wpAny_newObj_type ⟨.tup ds,_,σ,x,R',(bX _ vs rfl (aC ..) (h.ext x.v)),q⟩ (by show vs.toArray.size<=sizeLine; rw[ao,<-h.length,sizeLine_eq]; exact l1 0 1000000 0 16777216 hz rfl)
theorem SE.tuple{es:List Expr}{k:Nat}{pos:Pos}(h:SL C X W es l σ λds aA=>ds.length<=1000000/\Q (.tup ds) aA):SE C X W (.Tuple es k pos) l σ Q:=λg A cenv L m s p=>by
 refine Tuple_ (wpAny_mono (h pos g A cenv L m s p) ?_ λJ J h=>h)
 rintro vs aQ ⟨ds,cj,aA,bH,b7,hvs,hz,q⟩
 exact wpAny_mono (wT (E:=λJ J=>False) b7 hvs hz q) (λJ J h=>h.back bH) λJ J h=>h.elim
theorem yR{g:ac}{A:Around}{s:Shared}{σ:aK}{ds:List V}{vs:List Value}{E:Value->Shared->Prop}(R:bV C g σ s)(h:d0 g ds vs)(hz:ds.length<=1000000)(q:Q (.ref σ.nx) (σ.push (.list ds))):wpAny C.M A (newList vs) (Up C g Q) E s:=by
 have hfree:=R.free_size (ad s.heap.objs.size)
 have x:dA g (g.put s.heap.objs.size (.main σ.nx)):=dA.put hfree _
 have ho:(s.heap.push (aR vs 0)).get? s.heap.objs.size=some (aR vs 0):=ak _ rfl
 refine wpAny_newObj_type ⟨.ref σ.nx,_,_,x,(R.push (aR vs 0)).newMain (o:=.list ds) hfree (R.h0_size (ad _)) (rn vs 0 ho (h.ext x.v)) ⟨_,ho⟩,(a0 _ rfl (aC ..)),q⟩ (by show vs.toArray.size<=sizeLine; rw[ao,<-h.length,sizeLine_eq]; exact l1 0 1000000 0 16777216 hz rfl)
theorem SE.list{es:List Expr}{pos:Pos}(h:SL C X W es l σ λds aA=>ds.length<=1000000/\Q (.ref aA.nx) (aA.push (.list ds))):SE C X W (.List es pos) l σ Q:=λg A cenv L m s p=>by
 refine List_ (wpAny_mono (h pos g A cenv L m s p) ?_ λJ J h=>h)
 rintro vs aQ ⟨ds,cj,aA,bH,b7,hvs,hz,q⟩
 exact wpAny_mono (yR (E:=λJ J=>False) b7 hvs hz q) (λJ J h=>h.back bH) λJ J h=>h.elim
end
inductive Fl where
 | next | brk | cont
 | ret (d:V)
def FlR(g:ac):Fl->Flow->Prop
 | .next,f=>f=.next
 | .brk,f=>f=.brk
 | .cont,f=>f=.cont
 | .ret d,f=>∃v,f=.ret v/\VR g d v
set_option genSizeOf false
set_option genInjectivity false
inductive CY(C:Cx)(L:Addr)(g:ac)(Q:Fl->Loc->aK->Prop)(fl:Flow)(s':Shared):Prop
 | mk (f:Fl)(l':Loc)(g':ac)(σ':aK)(m':Str->Option Value)(x:eG L g g')(R:bV C g' σ' s')(hm:g' L=.fr m')(hl:jU g' l' m')(hf:FlR g' f fl)(q:Q f l' σ')
inductive Lh(C:Cx)(L:Addr)(g:ac)(Q:Loc->aK->Prop)(u:Unit)(s':Shared):Prop
 | mk (l':Loc)(g':ac)(σ':aK)(m':Str->Option Value)(x:eG L g g')(R:bV C g' σ' s')(hm:g' L=.fr m')(hl:jU g' l' m')(q:Q l' σ')
theorem CY.back{C:Cx}{L:Addr}{g g':ac}{Q:Fl->Loc->aK->Prop}{v:Flow}{s':Shared}(x:eG L g g')(h:CY C L g' Q v s'):CY C L g Q v s':=
 let ⟨f,l',g'',σ',m',y,r,r1,r2,r3,r4⟩:=h; ⟨f,l',g'',σ',m',x.trans y,r,r1,r2,r3,r4⟩
def yi(A:Around)(cenv:Env)(L:Addr):Prop:=(∃outer,A.frames=some (cenv::outer))/\cenv.frame=some L
def SS(C:Cx)(X:bc)(W:En)(ss:List Stmt)(l:Loc)(σ:aK)(Q:Fl->Loc->aK->Prop):Prop:=
 ∀g A cenv L m s,kU C W l σ g A cenv L m s->yi A cenv L->wpAny C.M A (execs ss cenv) (CY C L g Q) (X.P L g A.frames) s
def S1(C:Cx)(X:bc)(W:En)(st:Stmt)(l:Loc)(σ:aK)(Q:Fl->Loc->aK->Prop):Prop:=
 ∀g A cenv L m s,kU C W l σ g A cenv L m s->yi A cenv L->wpAny C.M A (exec st cenv) (CY C L g Q) (X.P L g A.frames) s
def SG(C:Cx)(X:bc)(W:En)(t:Expr)(l:Loc)(σ:aK)(d:V)(Q:Loc->aK->Prop):Prop:=
 ∀g A cenv L m s v,kU C W l σ g A cenv L m s->VR g d v->wpAny C.M A (assign t cenv v) (Lh C L g Q) (X.P L g A.frames) s
theorem gD.extL{g g':ac}{env:Env}{L:Addr}{m':Str->Option Value}(x:eG L g g')(hm:g' L=.fr m')(h:gD g env):gD g' env:=by
 obtain⟨k,L',m,e,t⟩:=h
 by_cases q:L'=L
 ·exact⟨k,L',m',e,q▸hm⟩
 ·exact⟨k,L',m,e,(x L' q (by rw[t]; intro h; cases h)).trans t⟩
theorem kU.stepL{C:Cx}{W:En}{l l':Loc}{σ σ':aK}{g g':ac}{A:Around}{cenv:Env}{L:Addr}{m m':Str->Option Value}{s s':Shared}(p:kU C W l σ g A cenv L m s)(x:eG L g g')(R:bV C g' σ' s')(hm:g' L=.fr m')(hl:jU g' l' m'):kU C W l' σ' g' A cenv L m' s' where
 R:=R
 E:=⟨p.E.sc,p.E.kind,p.E.loc,p.E.glob,p.E.blt,λy i e=>aM (p.E.cells y i e) λa e1 t=>(a0 a e1 ((x.v ((p.fm)▸λh=>h)).at t trivial)),p.E.frame.extL x hm,p.E.fn⟩
 A:=⟨p.A.depth,p.A.units,p.A.calm,aM p.A.frames λf e k=>(a0 f e (λenv he=>(k env he).extL x hm)),p.A.guards⟩
 fm:=hm
 fl:=hl
theorem kU.vL{C:Cx}{W:En}{l:Loc}{σ:aK}{g g':ac}{A:Around}{cenv:Env}{L:Addr}{m:Str->Option Value}{s:Shared}(p:kU C W l σ g A cenv L m s)(x:eG L g g'):dN g g':=x.v ((p.fm)▸λh=>h)
section
variable{C:Cx}{X:bc}{W:En}{l:Loc}{σ:aK}{Q:Fl->Loc->aK->Prop}
theorem SS.mono{Q':Fl->Loc->aK->Prop}{ss:List Stmt}(h:SS C X W ss l σ Q)(k:∀f l' σ',Q f l' σ'->Q' f l' σ'):SS C X W ss l σ Q':=
 λg A cenv L m s p o=>wpAny_mono (h g A cenv L m s p o) (λJ J ⟨f,l',g',σ',m',x,R,hm,hl,hf,q⟩=>⟨f,l',g',σ',m',x,R,hm,hl,hf,k _ _ _ q⟩) λJ J h=>h
theorem SS.nil(h:Q .next l σ):SS C X W [] l σ Q:=λg J J L m J p J=>wpAny_execs_nil ⟨.next,l,g,σ,m,eG.refl L g,p.R,p.fm,p.fl,rfl,h⟩
theorem SS.cons{st:Stmt}{r:List Stmt}(h:S1 C X W st l σ λf l' σ'=>match f with | .next=>SS C X W r l' σ' Q | f=>Q f l' σ'):SS C X W (st::r) l σ Q:=λg A cenv L m s p o=>by
 refine wpAny_execs_cons (wpAny_mono (h g A cenv L m s p o) ?_ λJ J h=>h)
 rintro fl s' ⟨f,l',g',σ',m',x,R,hm,hl,hf,q⟩
 cases f with
 | next=>
  obtain rfl:fl=.next:=hf
  exact wpAny_mono (q g' A cenv L m' s' (p.stepL x R hm hl) o) (λJ J h=>CY.back x h) λJ J h=>X.monoL x h
 | brk=>obtain rfl:fl=.brk:=hf; exact⟨.brk,l',g',σ',m',x,R,hm,hl,rfl,q⟩
 | cont=>obtain rfl:fl=.cont:=hf; exact⟨.cont,l',g',σ',m',x,R,hm,hl,rfl,q⟩
 | ret d=>refine aM hf λv e1r hv=>?_; subst e1r; exact⟨.ret d,l',g',σ',m',x,R,hm,hl,(a0 v rfl hv),q⟩
theorem S1.ret{e:Expr}{pos:Pos}(h:SE C X W e l σ λd σ'=>Q (.ret d) l σ'):S1 C X W (.Return (some e) pos) l σ Q:=λg A cenv L m s p J=>by
 refine wpAny_Return_some (wpAny_mono (h g A cenv L m s p) ?_ λJ J h=>h)
 rintro v s' ⟨d,g',σ',x,R,hv,q⟩
 have p':=p.step x R
 exact⟨.ret d,l,g',σ',m,x.l L,R,p'.fm,p'.fl,(a0 v rfl hv),q⟩
theorem S1.ifS{t:Expr}{a b:List Stmt}{pos:Pos}(h:ST C X W t l σ λc σ'=>if c=true then SS C X W a l σ' Q else SS C X W b l σ' Q):S1 C X W (.If t a b pos) l σ Q:=λg A cenv L m s p o=>by
 refine wpAny_If (wpAny_mono (h g A cenv L m s p) ?_ λJ J h=>h)
 rintro c s' ⟨g',σ',x,R,q⟩
 have p':=p.step x R
 cases c with
 | false=>exact wpAny_mono (q g' A cenv L m s' p' o) (λJ J h=>CY.back (x.l L) h) λJ J h=>X.mono x h
 | true=>exact wpAny_mono (q g' A cenv L m s' p' o) (λJ J h=>CY.back (x.l L) h) λJ J h=>X.mono x h
noncomputable def jk:Expr->Bool
 | .ListComp .. | .SetComp .. | .DictComp ..=>false
 | _=>true
theorem j7{e:Expr}{t:Option Expr}{n:Nat}{env:Env}(h:jk e=true):swapsWith e t n env=pure false:=by
 cases e<;>first | rfl | exact nt h
theorem qn.notInteractive{g:ac}{L:Addr}{cenv:Env}(h:qn W g L cenv):interactive cenv=false:=by
 unfold interactive; rw[h.sc,h.kind]; rfl
theorem S1.expr{e:Expr}{pos:Pos}(hn:jk e=true)(h:SE C X W e l σ λJ σ'=>Q .next l σ'):S1 C X W (.Expr e pos) l σ Q:=λg A cenv L m s p J=>by
 simp only[exec_Expr cenv e pos p.E.notInteractive (j7 hn)]
 refine wpAny_bind (wpAny_standAt (wpAny_bind (wpAny_mono (h g A cenv L m s p) ?_ λJ J h=>h)))
 rintro v s' ⟨d,g',σ',x,R,hv,q⟩
 have p':=p.step x R
 have fin:CY C L g Q .next s':=⟨.next,l,g',σ',m,x.l L,R,p'.fm,p'.fl,rfl,q⟩
 exact wpAny_dropValue fin
theorem A1(g:ac)(a:Addr)(t t':AB):(g.put a t).put a t'=g.put a t':=by
 funext b; by_cases q:b=a<;>simp[ac.put,q]
theorem bV.store{g:ac}{s:Shared}{L:Addr}{m m':Str->Option Value}{h':Heap}{tk:Nat}(R:bV C g σ s)(t:g L=.fr m)(hn:h'.Ns L m')(hs:bC L s.heap h'):bV C (g.put L (.fr m')) σ { s with heap:=h',toks:=tk }:=by
 have h0:C.H0.get? L=.none:=R.h0_none (by rw[t]; intro h; cases h) (by rw[t]; intro o h; cases h)
 have R1:bV C (g.put L .free) σ s:=R.retag (by rw[t]; exact λh=>h) trivial
 have R2:bV C (g.put L .free) σ { s with heap:=h',toks:=tk }:=R1.keepsT λb o hb e=>by
  by_cases q:b=L
  ·subst q; rw[aC] at hb; rcases hb with hb | hb
   ·exact absurd rfl hb
   ·exact absurd h0 hb
  ·exact(hs.2 b q).trans e
 have R3:=R2.retag (a:=L) (t:=.fr m') (by rw[aC]; exact λh=>h) ⟨hn,h0⟩
 rwa [A1] at R3
theorem jU.set{g:ac}{m:Str->Option Value}{x:Str}{d:V}{v:Value}(h:jU g l m)(hv:VR g d v):jU g (l.set x d) (λy=>if y=x then some v else m y):=λy=>by
 by_cases q:y=x
 ·simp only[Loc.set,q,if_true]; exact a0 v rfl hv
 ·simp only[Loc.set,q,if_false]; exact h y
theorem jG{W:En}{g:ac}{L:Addr}{cenv:Env}(E:qn W g L cenv):(cenv.scope.kind==.class||(cenv.scope.kind==.module&&cenv.locals != cenv.globals))=false:=by
 rw[E.ckind]; rfl
variable{QA:Loc->aK->Prop}
theorem SG.local{x:Str}{pos:Pos}{d:V}(hk:W.sc.names.lookup x=some .local)(h:QA (l.set x d) σ):SG C X W (.Name x pos) l σ d QA:=λg A cenv L m s v p hv=>by
 refine wpAny_bind (wpAny_standAt (wpAny_bindName ?_))
 refine wpAny_storeName_local ((p.E.kindOf x).trans hk) (p.E.loc▸p.R.fr L m p.fm) (λh' hn hs=>?_) (jG p.E)
 rw[p.E.loc] at hn hs
 have xl:eG L g (g.put L (.fr λy=>if y=x then some v else m y)):=eG.put g _
 have xv:=p.vL xl
 exact⟨_,_,σ,_,xl,p.R.store p.fm hn hs,aC ..,(p.fl.ext xv).set (hv.ext xv),h⟩
theorem SG.cell{x:Str}{pos:Pos}{d:V}{i:Nat}{o:Option V}(hk:W.sc.names.lookup x=some .cell)(hc:W.cells.lookup x=some i)(ho:σ.get i=some (.cell o))(h:QA l (σ.set i (.cell (some d)))):SG C X W (.Name x pos) l σ d QA:=λg A cenv L m s v p hv=>by
 refine wpAny_bind (wpAny_standAt (wpAny_bindName ?_))
 refine aM (p.E.cells x i hc) λa e t=>?_
 obtain⟨b,tb,ob,u,e1,e2,_⟩:=p.R.objs i _ ho
 obtain rfl:=p.R.uniq a b i t tb
 refine wpAny_storeName_cell p.E.ckind ((p.E.kindOf x).trans hk) e (a0 ob e1 e2) λh' hcv hs=>?_
 refine aM hcv λo' eo' ed'=>?_
 exact⟨l,g,_,m,eG.refl L g,p.R.upd (o:=.cell (some d)) t (.inl rfl) (λc o hc e=>(hs.2 c hc).trans e) ⟨o',eo'⟩ ⟨o',some v,eo',ed',v,rfl,hv⟩,p.fm,p.fl,h⟩
noncomputable def lr(sc:Scope):Env:={ scope:=sc,locals:=0,globals:=0,cells:=[] }
theorem kK{env:Env}{ts:List Expr}{v:Expr}{sc:Scope}(h:env.scope=sc):swappedStores ts v env=swappedStores ts v (lr sc):=by
 subst h; rfl
theorem j8{t e:Expr}{n:Nat}{env:Env}(h:jk e=true):swapsWithSole [t] e n env=pure false:=j7 h
theorem S1.assign{t e:Expr}{pos:Pos}(hn:jk e=true)(hw:swappedStores [t] e (lr W.sc)=pure .none)(ht:dW t=true)(h:SE C X W e l σ λd σ'=>SG C X W t l σ' d λl' σ''=>Q .next l' σ''):S1 C X W (.Assign [t] e pos) l σ Q:=λg A cenv L m s p J=>by
 have he:(assignEach [t] cenv).map (·.2)=[PySem.assign t cenv]:=by cases t<;>first | rfl | exact nt ht
 refine wpAny_Assign_stores (wpAny_mono (h g A cenv L m s p) ?_ λJ J h=>h) (j8 hn) ((kK p.E.sc).trans hw)
 rintro v s' ⟨d,g',σ',x,R,hv,q⟩
 have p':=p.step x R
 rw[he]
 refine wpAny_mono (q g' A cenv L m s' v p' hv) ?_ λJ J h=>X.mono x h
 rintro _ s'' ⟨l',g'',σ'',m',y,R',hm,hl,hq⟩
 exact⟨.next,l',g'',σ'',m',(x.l L).trans y,R',hm,hl,rfl,hq⟩
def KY(C:Cx)(X:bc)(W:En):List Expr->List V->Loc->aK->(Loc->aK->Prop)->Prop
 | [],[],l,σ,Q=>Q l σ
 | t::ts,d::ds,l,σ,Q=>dW t=true/\SG C X W t l σ d λl' σ'=>KY C X W ts ds l' σ' Q
 | _,_,_,_,_=>False
theorem lZ{t:Expr}{r:List Expr}{env:Env}(h:dW t=true):assignEach (t::r) env=(false,assign t env)::assignEach r env:=by
 cases t<;>first | rfl | exact nt h
theorem qM{g:ac}{A:Around}{cenv:Env}{L:Addr}{QA:Loc->aK->Prop}:∀{ts:List Expr}{ds:List V}{vs:List Value}{l:Loc}{σ:aK}{g':ac}{m:Str->Option Value}{s:Shared},(∀t∈ts,dW t=true)->KY C X W ts ds l σ QA->kU C W l σ g' A cenv L m s->d0 g' ds vs->eG L g g'->
  wpAny C.M A (assignInOrder ((assignEach ts cenv).map (·.2)) vs) (Lh C L g QA) (X.P L g A.frames) s:=by
 intro ts
 induction ts with
 | nil=>
  intro ds vs l σ g' m s _ h p hv x
  cases ds with
  | nil=>cases hv; exact wpAny_assignInOrder_none ⟨l,g',σ,m,x,p.R,p.fm,p.fl,h⟩
  | cons _ _=>exact h.elim
 | cons t ts ih=>
  intro ds vs l σ g' m s hs h p hv x
  cases ds with
  | nil=>exact h.elim
  | cons d ds=>
   refine bD hv λv r e hv0 hr=>?_
   subst e
   rw[lZ (hs t (.head _))]
   refine wpAny_assignInOrder_more (wpAny_mono (h.2 g' A cenv L m s v p hv0) ?_ λJ J h=>X.monoL x h)
   rintro _ s' ⟨l',g'',σ',m',y,R,hm,hl,q⟩
   exact ih (λt ht=>hs t (.tail _ ht)) q (p.stepL y R hm hl) (hr.ext (p.vL y)) (x.trans y)
theorem hO{env:Env}:∀{ts:List Expr},(assignEach ts env).length=ts.length
 | []=>rfl
 | t::ts=>by cases t<;>exact congrArg bf (hO (ts:=ts))
theorem ja{env:Env}:∀{ts:List Expr},(∀t∈ts,dW t=true)->(assignEach ts env).findIdx? (·.1)=none
 | [],_=>rfl
 | t::ts,h=>by
  rw[lZ (h t (.head _)),List.findIdx?_cons]
  simp[ja (ts:=ts) λt ht=>h t (.tail _ ht)]
theorem SG.tuple{ts:List Expr}{k:Nat}{pos:Pos}{ds:List V}(hc:W.calm=true)(hlen:ts.length=ds.length)(hs:∀t∈ts,dW t=true)(h:KY C X W ts ds l σ QA):SG C X W (.Tuple ts k pos) l σ (.tup ds) QA:=λg A cenv L m s v p hv=>by
 refine bD hv λa vs e2r t hvs=>?_
 subst e2r
 have ht:IsTup s.heap a vs.toArray:=⟨_,p.R.froz a _ t,rfl,0,rfl⟩
 refine assign_Tuple_tuple (p.A.calm hc) ht (by rw[hO,hlen,hvs.length]; simp) (ja hs) λh' he=>?_
 have R':bV C g σ { s with heap:=h' }:=p.R.keepsT λb o hb e=>he b o (λq=>by
  subst q; rcases hb with hb | hb
  ·exact hb (p.R.free_size (ad s.heap.objs.size))
  ·exact hb (p.R.h0_size (ad _))) e
 exact qM hs h (p.step (dA.refl g) R') hvs (eG.refl L g)
end
mutual
def sO(n:Nat):V->Prop
 | .tup ds | .fl ds | .st _ ds | .pk _ ds=>nH n ds
 | .ref i=>i<n
 | _=>True
def nH(n:Nat):List V->Prop
 | []=>True
 | d::r=>sO n d/\nH n r
end
def KJ(n:Nat):Option V->Prop
 | none=>True
 | some d=>sO n d
def lowO(n:Nat):O->Prop
 | .list ds=>nH n ds
 | .dict kvs=>∀kv∈kvs,sO n kv.1/\sO n kv.2
 | .inst _ fs=>∀f∈fs,sO n f.2
 | .cell v=>KJ n v
 | .exc _ fo=>match fo with
  | none=>True
  | some fs=>∀f∈fs,sO n f.2
 | .pk _ ds=>nH n ds
def aK.Closed(σ:aK):Prop:=∀i o,σ.get i=some o->i<σ.nx/\lowO σ.nx o
theorem VR.low{g:ac}{n:Nat}(hg:∀a i,g a=.main i->i<n){d:V}:∀{v:Value},VR g d v->sO n d:=
 V.rec (motive_1:=λd=>∀{v:Value},VR g d v->sO n d) (motive_2:=λds=>∀{vs:List Value},d0 g ds vs->nH n ds)
  (λJ=>trivial) (λJ J J=>trivial) (λJ J J=>trivial) (λJ J J=>trivial)
  (λds ih J h=>bD h λJ J J J r=>show nH n ds from ih r)
  (λds ih J h=>lW h λJ J J J J r=>show nH n ds from ih r)
  (λi J h=>aM h λa J t=>show i<n from hg a i t) (λJ J J=>trivial) (λJ J J J=>trivial)
  (λJ ks ih J h=>o55 h λJ J J J J J J J r J=>show nH n ks from ih r)
  (λJ ds ih J h=>mL h λJ J J J J J r=>show nH n ds from ih r)
  (λJ=>trivial) (λJ J iha ihb J h=>bD h λJ J J a b=>⟨iha a,ihb b⟩) d
theorem d0.low{g:ac}{n:Nat}(hg:∀a i,g a=.main i->i<n){ds:List V}:∀{vs:List Value},d0 g ds vs->nH n ds:=by
 induction ds with
 | nil=>exact @λJ J=>trivial
 | cons _ _ ih=>exact @λJ h=>bD h λJ J J a b=>⟨VR.low hg a,ih b⟩
theorem tI.low{P:Params}{g:ac}{hk:V->Int}{n:Nat}(hg:∀a i,g a=.main i->i<n):∀{kvs:List (V×V)}{es:List DictEntry},tI P g hk kvs es->∀kv∈kvs,sO n kv.1/\sO n kv.2:=by
 intro kvs
 induction kvs with
 | nil=>exact @λJ J J h=>by cases h
 | cons kv r ih=>
  intro es z x hx
  refine bD z λJ J J a r=>?_
  rcases aE.mp hx with rfl | hx
  ·exact⟨a.2.1.low hg,a.2.2.low hg⟩
  ·exact ih r x hx
theorem wv.low{P:Params}{g:ac}{n:Nat}(hg:∀a i,g a=.main i->i<n):∀{fs:List (Str×V)}{es:List DictEntry},wv P g fs es->∀f∈fs,sO n f.2:=by
 intro fs
 induction fs with
 | nil=>exact @λJ J J h=>by cases h
 | cons f r ih=>
  intro es z x hx
  refine lW z λJ J J J a r=>?_
  rcases aE.mp hx with rfl | hx
  ·exact a.low hg
  ·exact ih r x hx
theorem bV.closed{C:Cx}{g:ac}{σ:aK}{s:Shared}(R:bV C g σ s):σ.Closed:=by
 intro i o h
 refine aM (R.objs i o h) λa t r=>?_
 refine⟨R.idx a i t,?_⟩
 cases o with
 | list ds=>refine oq r λJ J J r=>?_; exact r.low R.idx
 | dict kvs=>refine bD r λJ J J J r=>?_; exact r.low R.idx
 | inst c fs=>refine mL r λJ J J J J J r=>?_; exact r.low R.idx
 | cell v=>
  refine bD r λJ J J J r=>?_
  cases v with
  | none=>trivial
  | some d=>refine aM r λJ J r=>?_; exact r.low R.idx
 | exc c fo=>
  refine wq r λJ J J J J J r=>?_
  cases fo with
  | none=>trivial
  | some fs=>refine mL r λJ J J J J J r=>?_; exact r.low R.idx
 | pk p ds=>refine bD r λJ J J J r=>?_; exact r.low R.idx
def SC(C:Cx)(X:bc)(W:En)(σ:aK)(f:V)(ds:List V)(Q:V->aK->Prop):Prop:=
 ∀g A L s fv vs,bV C g σ s->Ar g W.d W.calm A->VR g f fv->d0 g ds vs->wpAny C.M A (call fv vs) (Up C g Q) (X.P L g A.frames) s
noncomputable def mX(k:Str->Option NameKind):List (Str×V)->Loc->Loc
 | [],m=>m
 | (n,v)::r,m=>mX k r (if k n=some .local then λy=>if y=n then some v else m y else m)
noncomputable def jP(k:Str->Option NameKind):List (Str×V)->Loc->Loc
 | [],m=>m
 | (n,v)::r,m=>jP k r (if k n=some .local then m else λy=>if y=n then some v else m y)
def BR(g:ac):List (Str×V)->List (Str×Value)->Prop
 | [],l=>l=[]
 | (n,d)::r,l=>∃v t,l=(n,v)::t/\VR g d v/\BR g r t
theorem BR.zip{g:ac}:∀{ns:List Str}{ds:List V}{vs:List Value},d0 g ds vs->BR g (ns.zip ds) (ns.zip vs)
 | [],_,_,_=>by rfl
 | _::_,[],_,h=>by cases h; rfl
 | n::ns,d::ds,_,⟨v,r,e,a,b⟩=>by subst e; exact bX v (ns.zip r) rfl a (BR.zip b)
theorem CW{g:ac}{k:Str->Option NameKind}{bs:List (Str×V)}:∀{cs:List (Str×Value)}{l:Loc}{m:Str->Option Value},BR g bs cs->jU g l m->jU g (mX k bs l) (bindL k cs m):=by
 induction bs with
 | nil=>exact @λJ J J h r=>by cases h; exact r
 | cons hd0 bs ih=>
  obtain⟨n,d⟩:=hd0
  intro _ l m z3 r
  refine bD z3 λv t e a b=>?_
  rw[e]
  show jU g (mX k bs (if k n=some .local then _ else l)) (bindL k t (if k n=some .local then _ else m))
  by_cases hk:k n=some .local
  ·rw[if_pos hk,if_pos hk]; exact ih b (jU.set r a)
  ·rw[if_neg hk,if_neg hk]; exact ih b r
theorem CX{g:ac}{k:Str->Option NameKind}{bs:List (Str×V)}:∀{cs:List (Str×Value)}{l:Loc}{m:Str->Option Value},BR g bs cs->jU g l m->jU g (jP k bs l) (bindC k cs m):=by
 induction bs with
 | nil=>exact @λJ J J h r=>by cases h; exact r
 | cons hd0 bs ih=>
  obtain⟨n,d⟩:=hd0
  intro _ l m z3 r
  refine bD z3 λv t e a b=>?_
  rw[e]
  show jU g (jP k bs (if k n=some .local then l else _)) (bindC k t (if k n=some .local then m else _))
  by_cases hk:k n=some .local
  ·rw[if_pos hk,if_pos hk]; exact ih b r
  ·rw[if_neg hk,if_neg hk]; exact ih b (jU.set r a)
noncomputable def sz(b:Loc):List (Str×NameKind)->aK->aK
 | [],σ=>σ
 | (x,k)::r,σ=>if k==.cell then sz b r (σ.push (.cell (b x))) else sz b r σ
theorem ug{x:Str}{c:Nat}(names:List (Str×NameKind)):∀(n:Nat)(acc:List (Str×Nat)),(x,c)∈acc->(x,c)∈cellsFrom n names acc:=by
 induction names with
 | nil=>exact @λJ J h=>h
 | cons hd0 r ih=>
  obtain⟨y,k⟩:=hd0
  intro n acc h
  dsimp only[cellsFrom]
  split
  ·exact ih _ _ (.tail _ h)
  ·exact ih _ _ h
theorem FJ{C:Cx}{s:Shared}{b:Loc}{cm:Str->Option Value}(names:List (Str×NameKind)):∀(n:Nat)(acc:List (Str×Addr))(acci:List (Str×Nat))(g:ac)(σ:aK),bV C g σ s->
  (∀a,n<=a->g a=.free/\C.H0.get? a=none)->(∀y c,(y,c)∈cellsFrom n names acc->n<=c->s.heap.IsCell c (cm y))->(∀x,F7 g (b x) (cm x))->
  (∀x i,acci.lookup x=some i->∃a,acc.lookup x=some a/\g a=.main i)->
  ∃g',dA g g'/\bV C g' (sz b names σ) s/\∀x i,(cellsFrom σ.nx names acci).lookup x=some i->∃a,(cellsFrom n names acc).lookup x=some a/\g' a=.main i:=by
 induction names with
 | nil=>exact @λn acc acci g σ R J J J hacc=>(lz g (dA.refl g) R hacc)
 | cons hd0 r ih=>
  obtain⟨x,k⟩:=hd0
  intro n acc acci g σ R hfree hcell hb hacc
  dsimp only[sz,cellsFrom]
  unfold cellsFrom at hcell
  by_cases hk:(k==NameKind.cell)=true
  ·rw[if_pos hk] at hcell ⊢
   rw[if_pos hk,if_pos hk]
   refine aM (hcell x n (ug r _ _ (.head _)) (ad _)) λo ho hd=>?_
   have x1:dA g (g.put n (.main σ.nx)):=dA.put (hfree n (ad _)).1 _
   obtain⟨g',e,R'',h⟩:=ih (n+1) ((x,n)::acc) ((x,σ.nx)::acci) _ _ (R.newMain (a:=n) (o:=.cell (b x)) (hfree n (ad _)).1 (hfree n (ad _)).2 (bX o _ ho hd ((hb x).ext x1.v)) ⟨o,ho⟩)
    (λa ha=>⟨by rw[a9 _ _ (show a≠n by exact bP ‹_›)]; exact(hfree a (dj ha)).1,(hfree a (dj ha)).2⟩)
    (λy c h hc=>hcell y c h (by exact cJ ‹_›)) (λy=>(hb y).ext x1.v) (λy i hy=>by
     rw[jf] at hy ⊢
     cases q:y==x with
     | true=>rw[q] at hy; cases hy; exact a0 n rfl (aC ..)
     | false=>rw[q] at hy; refine aM (hacc y i hy) λa e t=>?_; exact a0 a e (x1.at t (by intro h; cases h)))
   exact lz g' (x1.trans e) R'' h
  ·rw[if_neg hk] at hcell ⊢
   rw[if_neg hk,if_neg hk]
   exact ih n acc acci g σ R hfree hcell hb hacc
noncomputable def bh(p:Arguments):List Str:=p.args.map λx:Arg=>x.arg
structure kF(scope:Scope)(ns:List Str):Prop where
 co:scope.isCoroutine=false
 gen:scope.isGenerator=false
 kind:scope.kind=.function
 nd:((cellsFrom 0 scope.names []).map (·.1)).Nodup
 kinds:∀x∈ns,scope.names.lookup x=some .local∨(scope.names.lookup x=some .cell/\((cellsFrom 0 scope.names []).lookup x).isSome=true)
theorem qe{x:Str}(names:List (Str×NameKind)):∀(n n':Nat)(acc acc':List (Str×Nat)),((acc.lookup x).isSome=true->(acc'.lookup x).isSome=true)->((cellsFrom n names acc).lookup x).isSome=true->((cellsFrom n' names acc').lookup x).isSome=true:=by
 induction names with
 | nil=>exact @λJ J J J h h'=>h h'
 | cons hd0 r ih=>
  obtain⟨y,k⟩:=hd0
  intro n n' acc acc' h h'
  unfold cellsFrom at h' ⊢
  split
  ·rename_i q
   rw[if_pos q] at h'
   refine ih _ _ _ _ (λz=>?_) h'
   rw[jf] at z ⊢
   cases q':x==y with
   | true=>rfl
   | false=>rw[q'] at z; exact h z
  ·rename_i q
   rw[if_neg q] at h'
   exact ih _ _ _ _ h h'
noncomputable def An(scope:Scope)(σ:aK)(d:Nat)(calm:Bool)(fn:Option (Value×Str)):En:=⟨scope,cellsFrom σ.nx scope.names [],d,calm,fn⟩
noncomputable def uI(scope:Scope)(ns:List Str)(ds:List V):Loc:=mX (λx=>scope.names.lookup x) (ns.zip ds) λJ=>none
noncomputable def uy(scope:Scope)(ns:List Str)(ds:List V)(σ:aK):aK:=sz (jP (λx=>scope.names.lookup x) (ns.zip ds) λJ=>none) scope.names σ
def jo(C:Cx)(X Xi:bc):Prop:=∀(g g':ac)(L L':Addr)(A:Around)(cenv:Env)(outer:List Env)(m:Str->Option Value)(e:Value)(s:Shared),A.frames=some outer->dA g g'->g L'=.free->g' L'=.fr m->cenv.frame=some L'->
 Xi.P L' g' (some (cenv::outer)) e s->wpAny C.M (A.deeper cenv) (leaving cenv e) (λJ s''=>X.P L g A.frames e s'') (λe' s''=>X.P L g A.frames e' s'') s
theorem jo.none{C:Cx}{X:bc}:jo C X .none:=λJ J J J J J J J J J J J J J J h=>h.elim
def wu(C:Cx)(X:bc)(W:En)(σ:aK)(f:V)(ds:List V)(Q:V->aK->Prop):Prop:=
 ∀g A L s fv vs,bV C g σ s->Ar g W.d W.calm A->VR g f fv->d0 g ds vs->codeAny C.M A (.call fv ⟨vs,[]⟩) (λr s'=>match r with | .ok (.ret v)=>Up C g Q v s' | .ok _=>False | .error e=>X.P L g A.frames e s') s
theorem ut{C:Cx}{X:bc}{W:En}{σ:aK}{f:V}{ds:List V}{Q:V->aK->Prop}(h:wu C X W σ f ds Q):SC C X W σ f ds Q:=λg A L s fv vs R hA hf hv=>wpAny_call (h g A L s fv vs R hA hf hv)
theorem wu.fn{C:Cx}{X Xi:bc}{W:En}{σ:aK}{ds:List V}{Q:V->aK->Prop}{a:Addr}{oc:Value}{od:Option Addr}{osl:Array (Option Value)}{name qual:Str}{params:Arguments}{body:List Stmt}{scope:Scope}{dV kV doc pm cdv ct:Value}{an:Option Addr}{d':Nat}
  (ho:C.K.lookup a=some ⟨oc,od,.func (fnOf name qual params body scope dV kV doc pm an cdv ct),osl⟩)(hcd:codeIn C.K cdv qual=true)(hW:W.d=d'+1)
  (ff:kF scope (bh params))
  (hb:∀vs:List Value,vs.length=ds.length->bindArgs (fnOf name qual params body scope dV kV doc pm an cdv ct) ⟨vs,[]⟩=pure ((bh params).zip vs))
  (hx:jo C X Xi)
  (h:σ.Closed->SS C Xi (An scope σ d' W.calm (some (cdv,qual++".<locals>."))) body (uI scope (bh params) ds) (uy scope (bh params) ds σ)
   λf J σ'=>match f with | .ret d=>Q d σ' | _=>Q .none σ'):wu C X W σ (.val (.ref a)) ds Q:=by
 intro g A L s fv vs R hA hf hv
 have hbr:BR g ((bh params).zip ds) ((bh params).zip vs):=BR.zip hv
 obtain rfl:fv=.ref a:=hf
 have hroom:A.depth<recursionLimit:=by have:=hA.depth; exact adz ‹_›
 refine codeAny_call_function hroom (R.kin _ _ ho) rfl ff.co ff.gen rfl (codeRec_of R.kin hcd) ?_
 simp only[hb vs hv.length.symm]
 refine wpAny_pure ?_
 refine wpAny_newFunctionEnv_cells ff.kind (λx hx=>?_) λenv he s' ic=>?_
 ·have hm:x.1∈bh params:=(List.of_mem_zip hx).1
  refine dn (ff.kinds x.1 hm) (λq=>?_) (λhq=>eV hq λq q'=>?_)
  ·exact .inl q
  ·exact .inr ⟨q,qe _ _ _ _ _ (λz=>by cases z) q'⟩
 refine oq ic.done λiq tk e2r H7=>?_
 subst e2r
 subst he
 have R1:bV C g σ { s with heap:=iq,toks:=tk }:=R.keeps H7
 refine⟨(R.top.nolimit).keeps H7,codeAny_func ?_⟩
 have hns:iq.Ns s.heap.objs.size (bindL (λx=>scope.names.lookup x) ((bh params).zip vs) λJ=>none):=ic.toInCall.ns
 have hLfree:g s.heap.objs.size=.free:=R.free_size (ad _)
 have hL0:C.H0.get? s.heap.objs.size=none:=R.h0_size (ad _)
 refine aM hA.frames λouter hfr hok=>?_
 have hnone:jU g (λJ=>none) (λJ=>none):=λJ=>rfl
 have R2:=R1.retag (a:=s.heap.objs.size) (t:=.fr (bindL (λx=>scope.names.lookup x) ((bh params).zip vs) λJ=>none)) ((hLfree)▸λh=>h) ⟨hns,hL0⟩
 have x1:dA g (g.put s.heap.objs.size (.fr (bindL (λx=>scope.names.lookup x) ((bh params).zip vs) λJ=>none))):=dA.put hLfree _
 obtain⟨dR,x2,R3,hcells⟩:=FJ (cm:=bindC (λx=>scope.names.lookup x) ((bh params).zip vs) λJ=>none) (b:=jP (λx=>scope.names.lookup x) ((bh params).zip ds) λJ=>none) scope.names (s.heap.objs.size+1) [] [] _ σ R2
  (λa ha=>⟨by rw[a9 _ _ (show a≠s.heap.objs.size by exact bP ‹_›)]; exact R.free_size (dj ha),R.h0_size (dj ha)⟩)
  (λy c hm J=>ic.cell y c (lookup_of_mem_nodup (cellsFrom_names scope.names 0 (s.heap.objs.size+1) [] [] rfl▸ff.nd) hm))
  (λx=>(CX hbr hnone x).ext x1.v) (λx i h=>by cases h)
 have xg:dA g dR:=x1.trans x2
 have hfr2:dR s.heap.objs.size=.fr (bindL (λx=>scope.names.lookup x) ((bh params).zip vs) λJ=>none):=x2.at (aC ..) (by intro h; cases h)
 have p:kU C (An scope σ d' W.calm (some (cdv,qual++".<locals>."))) (uI scope (bh params) ds) (uy scope (bh params) ds σ) dR
   (A.deeper (newEnv scope s.heap.objs.size mainGlobals (cellsFrom (s.heap.objs.size+1) scope.names []) (qual++".<locals>.") (some a) cdv none builtinsNs))
   (newEnv scope s.heap.objs.size mainGlobals (cellsFrom (s.heap.objs.size+1) scope.names []) (qual++".<locals>.") (some a) cdv none builtinsNs) s.heap.objs.size (bindL (λx=>scope.names.lookup x) ((bh params).zip vs) λJ=>none) { s with heap:=iq,toks:=tk }:=by
  refine⟨R3,⟨rfl,ff.kind,rfl,rfl,rfl,hcells,?_,λc q h=>by cases h; exact⟨rfl,rfl⟩⟩,⟨?_,?_,hA.calm,(a0 _ (nD hfr) ?_),hA.guards⟩,hfr2,?_⟩
  ·exact⟨by show scope.kind≠_; rw[ff.kind]; decide,_,_,rfl,hfr2⟩
  ·have:=hA.depth; rw[hW] at this; exact FC this
  ·have:=hA.units; rw[hW] at this; exact DU this rfl
  ·intro env he
   rcases aE.mp he with rfl | he
   ·exact⟨by show scope.kind≠_; rw[ff.kind]; decide,_,_,rfl,hfr2⟩
   ·exact(hok env he).ext xg
  ·exact jU.ext xg.v (CW hbr hnone)
 refine wpAny_mono (h R.closed dR _ _ _ _ _ p ⟨⟨outer,nD hfr⟩,rfl⟩) ?_ ?_
 ·rintro fl s'' ⟨f,l',g',σ',m',x,R',hm,hl,hfl,q⟩
  have xx:dA g g':=λb hb=>by
   have e1:=xg b hb
   simp only[<-e1]
   exact x b (λe=>hb (e▸hLfree):b≠s.heap.objs.size) ((e1)▸hb)
  have fin:∀v,(∃d,VR g' d v/\Q d σ')->Up C g Q v s'':=λv hq=>aM hq λd hv q=>⟨d,g',σ',xx,R',hv,q⟩
  cases f with
  | ret d=>refine aM hfl λv e1r hv=>?_; subst e1r; exact fin _ (a0 d hv q)
  | next=>obtain rfl:fl=.next:=hfl; exact fin _ (a0 .none rfl q)
  | brk=>obtain rfl:fl=.brk:=hfl; exact fin _ (a0 .none rfl q)
  | cont=>obtain rfl:fl=.cont:=hfl; exact fin _ (a0 .none rfl q)
 ·intro e s' hxi
  exact hx g dR L _ A _ outer _ e s' hfr xg hLfree hfr2 rfl (by rw[nD hfr] at hxi; exact hxi)
theorem SC.fn{C:Cx}{X Xi:bc}{W:En}{σ:aK}{ds:List V}{Q:V->aK->Prop}{a:Addr}{oc:Value}{od:Option Addr}{osl:Array (Option Value)}{name qual:Str}{params:Arguments}{body:List Stmt}{scope:Scope}{dV kV doc pm cdv ct:Value}{an:Option Addr}{d':Nat}
  (ho:C.K.lookup a=some ⟨oc,od,.func (fnOf name qual params body scope dV kV doc pm an cdv ct),osl⟩)(hcd:codeIn C.K cdv qual=true)(hW:W.d=d'+1)
  (ff:kF scope (bh params))
  (hb:∀vs:List Value,vs.length=ds.length->bindArgs (fnOf name qual params body scope dV kV doc pm an cdv ct) ⟨vs,[]⟩=pure ((bh params).zip vs))
  (hx:jo C X Xi)
  (h:σ.Closed->SS C Xi (An scope σ d' W.calm (some (cdv,qual++".<locals>."))) body (uI scope (bh params) ds) (uy scope (bh params) ds σ)
   λf J σ'=>match f with | .ret d=>Q d σ' | _=>Q .none σ'):SC C X W σ (.val (.ref a)) ds Q:=
 ut (wu.fn ho hcd hW ff hb hx h)
def bI(C:Cx)(f:V):Prop:=∀g σ s fv,bV C g σ s->VR g f fv->∃k,(k=Keeper.frame∨k=Keeper.machine∨k=Keeper.boundFrame)/\Looks C.M s.heap (keeperOf fv) k
theorem vh{C:Cx}{u:Value}(h:keepIn C.K u=true):bI C (.val u):=λJ J s fv R hv=>by
 obtain rfl:fv=u:=hv
 exact keeps_K h s.heap R.kin
theorem bI.type{C:Cx}{T:String}:bI C (.val (.type T)):=λJ J s fv J hv=>by
 obtain rfl:fv=.type T:=hv
 exact a0 .machine (.inr (.inl rfl)) (Looks.of_pure rfl)
theorem bI.builtin{C:Cx}{T:String}:bI C (.val (.builtin T)):=λJ J s fv J hv=>by
 obtain rfl:fv=.builtin T:=hv
 exact a0 .machine (.inr (.inl rfl)) (Looks.of_pure rfl)
noncomputable def dP(es:List Expr):Bool:=es.all dW
theorem px{pos:Pos}{env:Env}{es:List Expr}:dP es=true->(backTo pos (starEach es env)).any (·.1)=false:=by
 induction es with
 | nil=>exact @λJ=>rfl
 | cons e r ih=>
  intro h
  simp only[dP,pK,aZ] at h
  rw[iL h.1]
  show(false||(backTo pos (starEach r env)).any (·.1))=false
  rw[ih h.2]; rfl
section
variable{C:Cx}{X:bc}{W:En}{l:Loc}{σ:aK}{Q:V->aK->Prop}
theorem tc{args:List Expr}{pos:Pos}{g:ac}{A:Around}{cenv:Env}{L:Addr}{m:Str->Option Value}{s:Shared}{f:V}{fv:Value}{fs:List V}{first:List Value}(hs:dP args=true)(hk:bI C f)(p:kU C W l σ g A cenv L m s)(hf:VR g f fv)(hfs:d0 g fs first)
  (h:SL C X W args l σ λds aT=>SC C X W aT f (fs++ds) Q):wpAny C.M A (callWith pos fv first (backTo pos (starEach args cenv)) []) (Up C g Q) (X.P L g A.frames) s:=by
 refine callWith_of (P:=λh=>∃k,(k=Keeper.frame∨k=Keeper.machine∨k=Keeper.boundFrame)/\Looks C.M h (keeperOf fv) k) (by rw[px hs]; rfl) (λh k=>k) ?_
 have body:wpAny C.M A (spliced (backTo pos (starEach args cenv))) (λvs aQ=>(∃k,(k=Keeper.frame∨k=Keeper.machine∨k=Keeper.boundFrame)/\Looks C.M aQ.heap (keeperOf fv) k)/\wpAny C.M A (call fv (first++vs) []) (Up C g Q) (X.P L g A.frames) aQ) (X.P L g A.frames) s:=by
  refine wpAny_mono (h pos g A cenv L m s p) ?_ λJ J h=>h
  rintro vs aQ ⟨ds,cj,aA,x,b7,hvs,q⟩
  refine⟨hk cj aA aQ fv b7 (hf.ext x.v),fR x (q cj A L aQ fv (first++vs) b7 (p.step x b7).A (hf.ext x.v) ((hfs.ext x.v).append hvs)) λJ J h=>h.back x⟩
 cases args with
 | nil=>
  exact evalArgs_nil3 ⟨hk g σ s fv p.R hf,nilArgs (pos:=pos) h p hf hfs⟩
 | cons e r=>
  simp only[dP,pK,aZ] at hs
  rw[iL hs.1] at body ⊢
  exact evalArgs_plain body
where
 nilArgs {pos:Pos}{g:ac}{A:Around}{cenv:Env}{L:Addr}{m:Str->Option Value}{s:Shared}{f:V}{fv:Value}{fs:List V}{first:List Value}(h:SL C X W [] l σ λds aT=>SC C X W aT f (fs++ds) Q)(p:kU C W l σ g A cenv L m s)(hf:VR g f fv)(hfs:d0 g fs first) :
   wpAny C.M A (call fv (first++[]) []) (Up C g Q) (X.P L g A.frames) s:=by
  have w':wpAny C.M A (pure []:Sem (List Value)) (λvs aQ=>wpAny C.M A (call fv (first++vs) []) (Up C g Q) (X.P L g A.frames) aQ) (X.P L g A.frames) s:=by
   refine wpAny_mono (h pos g A cenv L m s p) ?_ λJ J h=>h
   rintro vs aQ ⟨ds,cj,aA,x,b7,hvs,q⟩
   exact fR x (q cj A L aQ fv (first++vs) b7 (p.step x b7).A (hf.ext x.v) ((hfs.ext x.v).append hvs)) λJ J h=>h.back x
  exact λΓ q hΓ=>w' Γ q hΓ Γ q hΓ
theorem c9{x:Str}{np pos:Pos}{args:List Expr}(hs:dP args=true)(h:SE C X W (.Name x np) l σ λf aA=>bI C f/\SL C X W args l aA λds aT=>SC C X W aT f ds Q):SE C X W (.Call (.Name x np) args [] pos) l σ Q:=λg A cenv L m s p=>by
 refine wpAny_Call_ofName (wpAny_mono (h g A cenv L m s p) ?_ λJ J h=>h)
 rintro fv aQ ⟨f,cj,aA,jx,b7,hf,hk,q⟩
 exact fR jx (tc (fs:=[]) (first:=[]) hs hk (p.step jx b7) hf rfl q) λJ J h=>h.back jx
end
def IsL(σ:aK)(d:V)(ds:List V):Prop:=d=.fl ds∨∃i,d=.ref i/\σ.get i=some (.list ds)
theorem IsL.fl{σ:aK}{ds:List V}:IsL σ (.fl ds) ds:=.inl rfl
theorem IsL.ref{σ:aK}{i:Nat}{ds:List V}(h:σ.get i=some (.list ds)):IsL σ (.ref i) ds:=.inr (a0 i rfl h)
theorem IsL.at{C:Cx}{g:ac}{σ:aK}{s:Shared}{d:V}{ds:List V}{v:Value}(h:IsL σ d ds)(R:bV C g σ s)(hv:VR g d v):∃a vs n,v=.ref a/\s.heap.get? a=some (aR vs n)/\d0 g ds vs:=by
 rcases h with rfl | ⟨i,rfl,h⟩
 ·refine lW hv λa vs n e3r t r=>?_; subst e3r; exact G2 a vs n rfl (R.froz _ _ t) r
 ·refine aM hv λa e1r t=>?_
  subst e1r
  obtain⟨b,t',vs,n,e,r⟩:=R.objs i _ h
  obtain rfl:=R.uniq a b i t t'
  exact G2 a vs n rfl e r
theorem du{h:Heap}{a:Addr}{vs:List Value}{n:Nat}(e:h.get? a=some (aR vs n)):h.IsList a vs.toArray:=⟨_,e,rfl,n,rfl⟩
theorem d9{h:Heap}{a:Addr}{vs:List Value}(e:h.get? a=some (aN vs)):IsTup h a vs.toArray:=⟨_,e,rfl,0,rfl⟩
theorem cS{C:Cx}{g:ac}{σ:aK}{s:Shared}{ds:List V}{v:Value}(R:bV C g σ s)(hv:VR g (.tup ds) v):∃a vs,v=.ref a/\s.heap.get? a=some (aN vs)/\d0 g ds vs:=by
 refine bD hv λa vs e2r t r=>?_; subst e2r; exact bX a vs rfl (R.froz _ _ t) r
section
variable{C:Cx}{X:bc}{W:En}{l:Loc}{σ:aK}{Q:V->aK->Prop}{a b:Int}{x y:Str}
theorem m8(h:Q (.int (a+b)) σ):SV C X W σ [.int a,.int b] (tY .Add) Q:=by
 rintro g A L s _ R hA ⟨_,_,rfl,⟨t,rfl⟩,_,_,rfl,⟨u,rfl⟩,rfl⟩
 exact P.add_int (Up.here (d:=.int _) (R.toks _) ⟨_,rfl⟩ h)
theorem BI(h:Q (.int (a - b)) σ):SV C X W σ [.int a,.int b] (tY .Sub) Q:=by
 rintro g A L s _ R hA ⟨_,_,rfl,⟨t,rfl⟩,_,_,rfl,⟨u,rfl⟩,rfl⟩
 exact P.sub_int (Up.here (d:=.int _) (R.toks _) ⟨_,rfl⟩ h)
theorem BK(hm:IntMulOk a b)(h:Q (.int (a*b)) σ):SV C X W σ [.int a,.int b] (tY .Mult) Q:=by
 rintro g A L s _ R hA ⟨_,_,rfl,⟨t,rfl⟩,_,_,rfl,⟨u,rfl⟩,rfl⟩
 exact P.mul_int (Up.here (d:=.int _) (R.toks _) ⟨_,rfl⟩ h) hm
theorem k9(hb:b≠0)(h:Q (.int (a.fmod b)) σ):SV C X W σ [.int a,.int b] (tY .Mod) Q:=by
 rintro g A L s _ R hA ⟨_,_,rfl,⟨t,rfl⟩,_,_,rfl,⟨u,rfl⟩,rfl⟩
 exact mod_int' hb (Up.here (d:=.int _) (R.toks _) ⟨_,rfl⟩ h)
theorem ur(h:Q (.int (-a)) σ):SV C X W σ [.int a] (tUn .USub) Q:=by
 rintro g A L s _ R hA ⟨_,_,rfl,⟨t,rfl⟩,rfl⟩
 exact P.neg_int (Up.here (d:=.int _) (R.toks _) ⟨_,rfl⟩ h)
theorem wE(h:Q (.bool (decide (a<b))) σ):SV C X W σ [.int a,.int b] (jA .Lt) Q:=by
 rintro g A L s _ R hA ⟨_,_,rfl,⟨t,rfl⟩,_,_,rfl,⟨u,rfl⟩,rfl⟩
 exact P.lt_int (Up.here (d:=.bool _) R rfl h)
theorem Dy(h:Q (.bool (decide (a<=b))) σ):SV C X W σ [.int a,.int b] (jA .LtE) Q:=by
 rintro g A L s _ R hA ⟨_,_,rfl,⟨t,rfl⟩,_,_,rfl,⟨u,rfl⟩,rfl⟩
 exact P.le_int (Up.here (d:=.bool _) R rfl h)
theorem DB(h:Q (.bool (decide (a>b))) σ):SV C X W σ [.int a,.int b] (jA .Gt) Q:=by
 rintro g A L s _ R hA ⟨_,_,rfl,⟨t,rfl⟩,_,_,rfl,⟨u,rfl⟩,rfl⟩
 exact P.gt_int (Up.here (d:=.bool _) R rfl h)
theorem oB(h:Q (.bool (x==y)) σ):SV C X W σ [.str x,.str y] (jA .Eq) Q:=by
 rintro g A L s _ R hA ⟨_,_,rfl,⟨t,rfl⟩,_,_,rfl,⟨u,rfl⟩,rfl⟩
 exact PyProof.Rows.eq_str (Up.here (d:=.bool _) R rfl h)
theorem SV.isNone{d:V}(hd:d≠.val .none)(h:Q (.bool (match d with | .none=>true | _=>false)) σ):SV C X W σ [d,.none] (jA .Is) Q:=by
 rintro g A L s _ R hA ⟨v,_,rfl,hv,_,_,rfl,rfl,rfl⟩
 refine is_none (Up.here (d:=.bool _) R ?_ h)
 cases d with
 | none=>obtain rfl:v=.none:=hv; rfl
 | val u=>obtain rfl:v=u:=hv; cases v<;>first | rfl | exact absurd rfl hd
 | bool _=>obtain rfl:=hv; rfl
 | int _=>obtain⟨_,rfl⟩:=hv; rfl
 | str _=>obtain⟨_,rfl⟩:=hv; rfl
 | tup _=>refine oq hv λJ J e2r J=>?_; subst e2r; rfl
 | fl _=>refine wo hv λJ J J e3r J=>?_; subst e3r; rfl
 | ref _=>refine aM hv λJ e1r J=>?_; subst e1r; rfl
 | rng _ _=>refine Jf hv λJ J J J e4r J=>?_; subst e4r; rfl
 | st _ _=>refine o52 hv λJ J J J J e5r J=>?_; subst e5r; rfl
 | pk _ _=>refine wo hv λJ J J e3r J=>?_; subst e3r; rfl
theorem SV.isNotNone{d:V}(hd:d≠.val .none)(h:Q (.bool (match d with | .none=>false | _=>true)) σ):SV C X W σ [d,.none] (jA .IsNot) Q:=by
 rintro g A L s _ R hA ⟨v,_,rfl,hv,_,_,rfl,rfl,rfl⟩
 refine isNot_none (Up.here (d:=.bool _) R ?_ h)
 cases d with
 | none=>obtain rfl:v=.none:=hv; rfl
 | val u=>obtain rfl:v=u:=hv; cases v<;>first | rfl | exact absurd rfl hd
 | bool _=>obtain rfl:=hv; rfl
 | int _=>obtain⟨_,rfl⟩:=hv; rfl
 | str _=>obtain⟨_,rfl⟩:=hv; rfl
 | tup _=>refine oq hv λJ J e2r J=>?_; subst e2r; rfl
 | fl _=>refine wo hv λJ J J e3r J=>?_; subst e3r; rfl
 | ref _=>refine aM hv λJ e1r J=>?_; subst e1r; rfl
 | rng _ _=>refine Jf hv λJ J J J e4r J=>?_; subst e4r; rfl
 | st _ _=>refine o52 hv λJ J J J J e5r J=>?_; subst e5r; rfl
 | pk _ _=>refine wo hv λJ J J e3r J=>?_; subst e3r; rfl
theorem yC{d e:V}{ds es:List V}(hd:IsL σ d ds)(he:IsL σ e es)(hz:ds.length+es.length<=1000000)(h:Q (.ref σ.nx) (σ.push (.list (ds++es)))):SV C X W σ [d,e] (tY .Add) Q:=by
 rintro g A L s _ R hA ⟨v,_,rfl,hv,u,_,rfl,hu,rfl⟩
 have hfree:=R.free_size (ad s.heap.objs.size)
 refine lW (hd.at R hv) λa vs n e3r ho hvs=>?_
 subst e3r
 refine lW (he.at R hu) λb us n2 e3r ho2 hus=>?_
 subst e3r
 refine concat_meets (a0 _ ho rfl) (a0 _ ho2 rfl) noFill_list_add seq_list_add PySem.F.slot_list_add PySem.F.entry_list_add (PySem.F.args_list_add_2 _ _) (list_addW a b vs.toArray us.toArray n n2 none none #[] #[] (by rw[ao,ao,<-hvs.length,<-hus.length,sizeLine_eq]; exact l1 0 1000000 0 16777216 hz rfl)) ⟨ho,ho2,?_⟩
 have e:vs.toArray++us.toArray=(vs++us).toArray:=by simp
 rw[e]
 have hg:(s.heap.push (aR (vs++us) 0)).get? s.heap.objs.size=some (aR (vs++us) 0):=ak _ rfl
 have x:dA g (g.put s.heap.objs.size (.main σ.nx)):=dA.put hfree _
 exact⟨.ref σ.nx,_,_,x,(R.push (aR (vs++us) 0)).newMain (o:=.list (ds++es)) hfree (R.h0_size (ad _)) (rn _ 0 hg ((hvs.append hus).ext x.v)) ⟨_,hg⟩,(a0 _ rfl (aC ..)),h⟩
theorem BN{ds es:List V}(hz:ds.length+es.length<=1000000)(h:Q (.tup (ds++es)) σ):SV C X W σ [.tup ds,.tup es] (tY .Add) Q:=by
 rintro g A L s _ R hA ⟨v,_,rfl,hv,u,_,rfl,hu,rfl⟩
 refine bD (cS R hv) λa vs e2r ho hvs=>?_
 subst e2r
 have hv':=hv
 have hu':=hu
 refine bD (cS R hu) λb us e2r ho2 hus=>?_
 subst e2r
 by_cases h1:vs=[]
 ·subst h1
  have:ds=[]:=fq (by rw[hvs.length]; rfl)
  subst this
  exact concat_meets ⟨_,ho,rfl⟩ ⟨_,ho2,rfl⟩ noFill_tuple_add seq_tuple_add PySem.F.slot_tuple_add PySem.F.entry_tuple_add (PySem.F.args_tuple_add_2 _ _)
   (tuple_addW0 a b [].toArray us.toArray 0 0 none none #[] #[] (by simp)) ⟨ho,ho2,Up.here (d:=.tup es) R hu' h⟩
 ·by_cases h2:us=[]
  ·subst h2
   have:es=[]:=fq (by rw[hus.length]; rfl)
   subst this
   rw[dq] at h
   exact concat_meets (a0 _ ho rfl) (a0 _ ho2 rfl) noFill_tuple_add seq_tuple_add PySem.F.slot_tuple_add PySem.F.entry_tuple_add (PySem.F.args_tuple_add_2 _ _)
    (tuple_addW1 a b vs.toArray [].toArray 0 0 none none #[] #[] (by simpa using h1) (by simp)) ⟨ho,ho2,Up.here (d:=.tup ds) R hv' h⟩
  ·refine concat_meets (a0 _ ho rfl) (a0 _ ho2 rfl) noFill_tuple_add seq_tuple_add PySem.F.slot_tuple_add PySem.F.entry_tuple_add (PySem.F.args_tuple_add_2 _ _)
    (tuple_addW2 a b vs.toArray us.toArray 0 0 none none #[] #[] (by simpa using h1) (by simpa using h2) (by rw[ao,ao,<-hvs.length,<-hus.length,sizeLine_eq]; exact l1 0 1000000 0 16777216 hz rfl)) ⟨ho,ho2,?_⟩
   rw[(show vs.toArray++us.toArray=(vs++us).toArray from by simp)]
   refine eV (R.newFroz (aN (vs++us)) rfl) λR' x=>?_
   exact⟨.tup (ds++es),_,σ,x,R',(bX _ (vs++us) rfl (aC ..) ((hvs.append hus).ext x.v)),h⟩
end
mutual
noncomputable def n7:V->Bool
 | .none | .bool _ | .int _=>true
 | .str x=>cE x
 | .tup ds | .fl ds=>hU ds
 | _=>false
noncomputable def hU:List V->Bool
 | []=>true
 | d::r=>n7 d&&hU r
end
mutual
noncomputable def pd:V->PyData
 | .none=>.none
 | .bool b=>.bool b
 | .int i=>.int i
 | .str x=>.str x
 | .tup ds=>.tuple (tH ds)
 | .fl ds=>.list (tH ds)
 | _=>.none
noncomputable def tH:List V->List PyData
 | []=>[]
 | d::r=>pd d::tH r
end
theorem VR.reads{g:ac}{h:Heap}(hf:∀a o,g a=.froz o->h.get? a=some o){d:V}:∀{v:Value},n7 d=true->VR g d v->∃as,Reads h v (pd d) as:=
 V.rec (motive_1:=λd=>∀{v:Value},n7 d=true->VR g d v->∃as,Reads h v (pd d) as) (motive_2:=λds=>∀{vs:List Value},hU ds=true->d0 g ds vs->∃as,ReadsAll h vs (tH ds) as)
  (λJ e=>by cases e; exact⟨_,.none⟩) (λb J J e=>by cases e; exact⟨_,.bool b⟩) (λi J J r=>ik r λt e=>by subst e; exact⟨_,.int i t⟩) (λx J J r=>ik r λt e=>by subst e; exact⟨_,.str x t⟩)
  (λJ ih J b z=>bD z λa vs e t r=>ik (ih b r) λas ra=>by subst e; exact⟨_,.tuple (hf a _ t) rfl rfl ra⟩)
  (λJ ih J b z=>lW z λa vs n e t r=>ik (ih b r) λas ra=>by subst e; exact⟨_,.list (hf a _ t) rfl rfl ra⟩)
  (λJ J b=>nt b) (λJ J b=>nt b) (λJ J J b=>nt b) (λJ J J J b=>nt b) (λJ J J J b=>nt b)
  (λJ e=>by cases e; exact⟨_,.nil⟩)
  (λJ J iha ihb J b z=>bD z λv r e x y=>ik (iha (dZ b).1 x) λas ra=>ik (ihb (dZ b).2 y) λbs rb=>by subst e; exact⟨_,.cons ra rb⟩) d
theorem d0.reads{g:ac}{h:Heap}(hf:∀a o,g a=.froz o->h.get? a=some o){ds:List V}:∀{vs:List Value},hU ds=true->d0 g ds vs->∃as,ReadsAll h vs (tH ds) as:=by
 induction ds with
 | nil=>exact @λJ J e=>by cases e; exact⟨_,.nil⟩
 | cons _ _ ih=>exact @λJ b z=>bD z λv r e x y=>ik (VR.reads hf (dZ b).1 x) λas ra=>ik (ih (dZ b).2 y) λbs rb=>by subst e; exact⟨_,.cons ra rb⟩
def fO(σ:aK)(d:V)(p:PyData):Prop:=(n7 d=true/\p=pd d)∨∃ds,IsL σ d ds/\hU ds=true/\p=.list (tH ds)
theorem fO.reads{C:Cx}{g:ac}{σ:aK}{s:Shared}{d:V}{p:PyData}{v:Value}(h:fO σ d p)(R:bV C g σ s)(hv:VR g d v):∃as,Reads s.heap v p as:=by
 rcases h with ⟨b,rfl⟩ | ⟨ds,hl,b,rfl⟩
 ·exact VR.reads R.froz b hv
 ·refine lW (hl.at R hv) λa vs n e3r e r=>?_
  subst e3r
  obtain⟨as,ra⟩:=d0.reads R.froz b r
  exact⟨_,.list e rfl rfl (by exact ra)⟩
section
variable{C:Cx}{X:bc}{W:En}{l:Loc}{σ:aK}{Q:V->aK->Prop}
theorem BM{d e:V}{p q:PyData}(hd:fO σ d p)(he:fO σ e q)(sp:shaped p=true)(sq:shaped q=true)(h:Q (.bool (dT p q)) σ):SV C X W σ [d,e] (jA .Eq) Q:=by
 rintro g A L s _ R hA ⟨v,_,rfl,hv,u,_,rfl,hu,rfl⟩
 obtain⟨as,ra⟩:=hd.reads R hv
 obtain⟨bs,rb⟩:=he.reads R hu
 exact compareEq_shaped ra rb sp sq (fL hA.units rfl) (Up.here (d:=.bool _) R rfl h)
theorem BJ{d e:V}{p q:PyData}(hd:fO σ d p)(he:fO σ e q)(sp:shaped p=true)(sq:shaped q=true)(h:Q (.bool (!PyData.eqv p q)) σ):SV C X W σ [d,e] (jA .NotEq) Q:=by
 rintro g A L s _ R hA ⟨v,_,rfl,hv,u,_,rfl,hu,rfl⟩
 obtain⟨as,ra⟩:=hd.reads R hv
 obtain⟨bs,rb⟩:=he.reads R hu
 exact compareNe_shaped ra rb sp sq (fL hA.units rfl) (Up.here (d:=.bool _) R rfl h)
theorem pr{A:Around}{xs:List PyData}{p:PyData}(sp:shaped p=true)(hu:A.units+100<cLine):A.units+1+min (tF xs) p.depth<cLine:=by
 exact ah (Z (au (Z (tL _ _) (depth_of_shaped sp)) (A.units+1)) (au (N rfl:65<=100) A.units)) hu
theorem BL{d e:V}{p:PyData}{es:List V}(hd:fO σ d p)(he:IsL σ e es)(ha:hU es=true)(hc:c8 (tH es)=true)(sp:shaped p=true)(h:Q (.bool ((tH es).any λy=>dT y p)) σ):SV C X W σ [d,e] (jA .In) Q:=by
 rintro g A L s _ R hA ⟨v,_,rfl,hv,u,_,rfl,hu,rfl⟩
 obtain⟨as,ra⟩:=hd.reads R hv
 obtain⟨bs,rb⟩:=fO.reads (.inr (lz es he ha rfl)) R hu
 exact PySem.SeqAt.in_list_reads rb ra hc (canLay_of_shaped sp) (pr sp (fL hA.units rfl)) (Up.here (d:=.bool _) R rfl h)
theorem u7{d e:V}{p:PyData}{es:List V}(hd:fO σ d p)(he:IsL σ e es)(ha:hU es=true)(hc:c8 (tH es)=true)(sp:shaped p=true)(h:Q (.bool (!(tH es).any λy=>dT y p)) σ):SV C X W σ [d,e] (jA .NotIn) Q:=by
 rintro g A L s _ R hA ⟨v,_,rfl,hv,u,_,rfl,hu,rfl⟩
 obtain⟨as,ra⟩:=hd.reads R hv
 obtain⟨bs,rb⟩:=fO.reads (.inr (lz es he ha rfl)) R hu
 exact PySem.SeqAt.notIn_list_reads rb ra hc (canLay_of_shaped sp) (pr sp (fL hA.units rfl)) (Up.here (d:=.bool _) R rfl h)
theorem Dz{d:V}{p:PyData}{es:List V}(hd:fO σ d p)(ha:hU es=true)(hc:c8 (tH es)=true)(sp:shaped p=true)(h:Q (.bool ((tH es).any λy=>dT y p)) σ):SV C X W σ [d,.tup es] (jA .In) Q:=by
 rintro g A L s _ R hA ⟨v,_,rfl,hv,u,_,rfl,hu,rfl⟩
 obtain⟨as,ra⟩:=hd.reads R hv
 obtain⟨bs,rb⟩:=VR.reads R.froz (show n7 (.tup es)=true from ha) hu
 exact PySem.SeqAt.in_tuple_reads rb ra hc (canLay_of_shaped sp) (pr sp (fL hA.units rfl)) (Up.here (d:=.bool _) R rfl h)
theorem wC{d:V}{p:PyData}{es:List V}(hd:fO σ d p)(ha:hU es=true)(hc:c8 (tH es)=true)(sp:shaped p=true)(h:Q (.bool (!(tH es).any λy=>dT y p)) σ):SV C X W σ [d,.tup es] (jA .NotIn) Q:=by
 rintro g A L s _ R hA ⟨v,_,rfl,hv,u,_,rfl,hu,rfl⟩
 obtain⟨as,ra⟩:=hd.reads R hv
 obtain⟨bs,rb⟩:=VR.reads R.froz (show n7 (.tup es)=true from ha) hu
 exact PySem.SeqAt.notIn_tuple_reads rb ra hc (canLay_of_shaped sp) (pr sp (fL hA.units rfl)) (Up.here (d:=.bool _) R rfl h)
set_option tactic.hygienic true in
theorem i6(slice:Expr)(o i:Value):∃ops,subscripted slice false o i=operate ops (getItem o i):=by
 cases slice<;>first | exact⟨_,rfl⟩ | (rename_i a b c p; cases c<;>exact⟨_,rfl⟩)
def SI(C:Cx)(X:bc)(W:En)(σ:aK)(o i:V)(Q:V->aK->Prop):Prop:=
 ∀g A L s ov iv,bV C g σ s->Ar g W.d W.calm A->VR g o ov->VR g i iv->ItemOn C.M A (X.P L g A.frames) ov iv (Up C g Q) s
theorem SE.sub{v sl:Expr}{pos:Pos}(h:SE C X W v l σ λo aA=>SE C X W sl l aA λi aT=>SI C X W aT o i Q):SE C X W (.Subscript v sl pos) l σ Q:=λg A cenv L m s p=>by
 refine Subscript_ (wpAny_mono (h g A cenv L m s p) ?_ λJ J h=>h)
 rintro ov aQ ⟨o,cj,aA,bH,b7,ho,q⟩
 have cf:=p.step bH b7
 refine wpAny_mono (q cj A cenv L m aQ cf) ?_ λJ J h=>X.mono bH h
 rintro iv b8 ⟨i,dR,aT,eN,dM,hi,mh⟩
 refine bD (mh dR A L b8 ov iv dM (cf.step eN dM).A (ho.ext eN.v) hi) λT id hl hT hg=>?_
 refine ik (i6 sl ov iv) λops e=>?_
 exact wpAny_mono (tail_any hT hl hg e) (λJ J h=>Up.back (bH.trans eN) h) λJ J h=>X.mono (bH.trans eN) h
theorem SI.tup{ds:List V}{k:Int}{j:Nat}{d:V}(hlo:-(2 ^ 63)<=k)(hhi:k<2 ^ 63)(hj:seqIndex? k ds.length=some j)(hx:ds[j]?=some d)(h:Q d σ):SI C X W σ (.tup ds) (.int k) Q:=by
 rintro g A L s ov iv R hA ho ⟨t,rfl⟩
 refine bD (cS R ho) λa vs e2r e r=>?_
 subst e2r
 refine aM (r.get hx) λv hv rv=>?_
 exact bX ("tuple") _ slot_tuple_getitem.lookup ⟨_,e,rfl⟩ (getItem_tuple (d9 e) hlo hhi (by rw[ao,<-r.length]; exact hj) (by simpa using hv) (Up.here R rv h))
theorem SI.list{o:V}{ds:List V}{k:Int}{d:V}(ho:IsL σ o ds)(h0:0<=k)(hhi:k<2 ^ 63)(hx:ds[k.toNat]?=some d)(h:Q d σ):SI C X W σ o (.int k) Q:=by
 rintro g A L s ov iv R hA hv ⟨t,rfl⟩
 refine lW (ho.at R hv) λa vs n e3r e r=>?_
 subst e3r
 refine aM (r.get hx) λv hv rv=>?_
 exact bX ("list") _ slot_list_getitem.lookup ⟨_,e,rfl⟩ (wpAny_getItem_list (du e) h0 hhi (by simpa using hv) (Up.here R rv h))
def pD(C:Cx)(X:bc)(W:En)(eo:Option Expr)(l:Loc)(σ:aK)(Q:Option Int->aK->Prop):Prop:=match eo with
 | none=>Q none σ
 | some e=>SE C X W e l σ λd σ'=>∃i,d=.int i/\Q (some i) σ'
def wr(C:Cx)(X:bc)(W:En)(σ:aK)(o:V)(lo hi:Option Int)(Q:V->aK->Prop):Prop:=
 ∀g A L s ov vl vu,bV C g σ s->Ar g W.d W.calm A->VR g o ov->IsPart vl lo->IsPart vu hi->
  ItemOn C.M A (X.P L g A.frames) ov (.ref s.heap.objs.size) (Up C g Q) { s with heap:=s.heap.push { cls:=.type "slice",data:=.fields #[vl,vu,.none] } }
theorem pD.use{eo:Option Expr}{g:ac}{A:Around}{cenv:Env}{L:Addr}{m:Str->Option Value}{s:Shared}{QO:Option Int->aK->Prop}(p:kU C W l σ g A cenv L m s)(h:pD C X W eo l σ QO) :
  wpAny C.M A (valueOrNone (evalOpt eo cenv)) (λv s'=>∃k g' σ',dA g g'/\bV C g' σ' s'/\IsPart v k/\QO k σ') (X.P L g A.frames) s:=by
 cases eo with
 | none=>exact wpAny_pure (ub none g σ (dA.refl g) p.R .none h)
 | some e=>
  refine wpAny_mono (h g A cenv L m s p) ?_ λJ J h=>h
  rintro v s' ⟨d,g',σ',x,R,hv,i,rfl,q⟩
  obtain⟨t,rfl⟩:=hv
  exact ub (some i) g' σ' x R (.int i t) q
theorem SE.slice{v:Expr}{lo hi:Option Expr}{sp pos:Pos}(h:SE C X W v l σ λo aA=>pD C X W lo l aA λa aT=>pD C X W hi l aT λb ez=>wr C X W ez o a b Q):SE C X W (.Subscript v (.Slice lo hi ax sp) pos) l σ Q:=λg A cenv L m s p=>by
 refine Subscript_ (wpAny_mono (h g A cenv L m s p) ?_ λJ J h=>h)
 rintro ov aQ ⟨o,cj,aA,bH,b7,ho,q⟩
 have cf:=p.step bH b7
 show wpAny C.M A (do
  let l <-valueOrNone (evalOpt lo cenv)
  let u <-holding [l] (valueOrNone (evalOpt hi cenv))
  let s <-holding [l,u] (valueOrNone (evalOpt ax cenv))
  newFields "slice" [l,u,s]) _ _ _
 refine wpAny_bind (wpAny_mono (pD.use cf q) ?_ λJ J h=>X.mono bH h)
 intro vl b8 hq
 refine mL hq λa dR aT eN dM ha mh=>?_
 have nw:=cf.step eN dM
 refine wpAny_bind (wpAny_holding (wpAny_mono (pD.use nw mh) ?_ λJ J h=>X.mono (bH.trans eN) h))
 intro vu uW hq
 refine mL hq λb rR ez ml k0 hb tP=>?_
 have e:=(bH.trans eN).trans ml
 have nP:=nw.step ml k0
 refine wpAny_bind (wpAny_holding (wpAny_pure ?_))
 refine ik (i6 (.Slice lo hi ax sp) ov (.ref uW.heap.objs.size)) λops eo=>?_
 refine bD (tP rR A L uW ov vl vu k0 nP.A (ho.ext (eN.trans ml).v) ha hb) λT id hl hT hg=>?_
 refine wpAny_newObj_type ?_ (by first | size_fits | decide | rfl)
 exact wpAny_mono (tail_any hT hl hg eo) (λJ J h=>Up.back e h) λJ J h=>X.mono e h
end
def HD(C:Cx)(gb:ac)(A:Around)(t:Expr)(I:Addr)(own:List Addr)(src:aK->Prop)(d:V)(St St':Heap->Prop):Prop:=
 ∀g σ s (Q:Option Value->Shared->Prop)(E:Value->Shared->Prop),dN gb g->bV C g σ s->(∀b∈own,g b=.free)->src σ->St s.heap->
  (∀v aQ,(∀(Q':Unit->Shared->Prop)(E':Value->Shared->Prop),(∀dR b8,dA g dR->(∀b∈own,dR b=.free)->bV C dR σ b8->VR dR d v->St' b8.heap->Q' () b8)->wpAny C.M A (letOwnedTupleGo t (.ref I) v) Q' E' aQ)->Q (some v) aQ)->
  wpAny C.M A (pyNext (.ref I)) Q E s
def HE(C:Cx)(gb:ac)(A:Around)(I:Addr)(own:List Addr)(src:aK->Prop)(St:Heap->Prop):Prop:=
 ∀g σ s (Q:Option Value->Shared->Prop)(E:Value->Shared->Prop),dN gb g->bV C g σ s->(∀b∈own,g b=.free)->src σ->St s.heap->(∀aQ,bV C g σ aQ->Q none aQ)->wpAny C.M A (pyNext (.ref I)) Q E s
def Bs(C:Cx)(A:Around)(I:Addr)(St:Heap->Prop):Prop:=∀(s:Shared)(Q:Value->Shared->Prop)(E:Value->Shared->Prop),St s.heap->Q (.ref I) s->wpAny C.M A (pyIter (.ref I)) Q E s
def F1(own:List Addr)(St:Heap->Prop):Prop:=(∀h h',St h->(∀b∈own,∀o,h.get? b=some o->h'.get? b=some o)->St h')/\∀h,St h->∀b∈own,∃o,h.get? b=some o
noncomputable def eE(g:ac)(own:List Addr):ac:=λa=>if a∈own then .free else g a
noncomputable def fc(g:ac)(own:List Addr)(h:Heap):ac:=λa=>if a∈own then(match h.get? a with | some o=>.held o | none=>.free) else g a
theorem n9{g:ac}{own:List Addr}{a:Addr}(h:a∈own):eE g own a=.free:=by simp[eE,h]
theorem dc{g:ac}{own:List Addr}{a:Addr}(h:a∉own):eE g own a=g a:=by simp[eE,h]
theorem n8{g:ac}{own:List Addr}{h:Heap}{a:Addr}{o:Obj}(m:a∈own)(e:h.get? a=some o):fc g own h a=.held o:=by simp[fc,m,e]
theorem mQ{g:ac}{own:List Addr}{h:Heap}{a:Addr}(m:a∉own):fc g own h a=g a:=by simp[fc,m]
theorem v5(g:ac)(a:Addr)(own:List Addr):eE g (a::own)=(eE g own).put a .free:=by
 funext b
 by_cases q:b=a
 ·rw[q]; rw[aC]; simp[eE]
 ·rw[a9 _ _ q]; simp[eE,q]
theorem v0{g:ac}{a:Addr}{own:List Addr}{h:Heap}{o:Obj}(e:h.get? a=some o):fc g (a::own) h=(fc g own h).put a (.held o):=by
 funext b
 by_cases q:b=a
 ·rw[q]; rw[aC]; simp[fc,e]
 ·rw[a9 _ _ q]; simp[fc,q]
theorem bV.freeAll{C:Cx}{σ:aK}{s:Shared}{g:ac}(R:bV C g σ s){own:List Addr}:(∀b∈own,¬(g b).solid)->bV C (eE g own) σ s:=by
 induction own with
 | nil=>
  intro _
  have:eE g []=g:=by funext b; simp[eE]
  exact R
 | cons a own ih=>
  intro h
  rw[v5]
  refine(ih λb hb=>h b (.tail _ hb)).retag ?_ trivial
  by_cases q:a∈own
  ·rw[n9 q]; exact λx=>x
  ·rw[dc q]; exact h a (.head _)
theorem bV.holdAll{C:Cx}{σ:aK}{s:Shared}{g:ac}(R:bV C g σ s){own:List Addr}:(∀b∈own,¬(g b).solid/\C.H0.get? b=none/\∃o,s.heap.get? b=some o)->bV C (fc g own s.heap) σ s:=by
 induction own with
 | nil=>
  intro _
  have:fc g [] s.heap=g:=by funext b; simp[fc]
  exact R
 | cons a own ih=>
  intro h
  obtain⟨h1,h2,o,e⟩:=h a (.head _)
  rw[v0 e]
  refine(ih λb hb=>h b (.tail _ hb)).retag ?_ ⟨e,h2⟩
  by_cases q:a∈own
  ·rw[n8 q e]; exact λx=>x
  ·rw[mQ q]; exact h1
def FT(C:Cx)(X:bc):Prop:=∀(A:Around)(cenv:Env)(outer:List Env)(L:Addr)(g:ac)(m:Str->Option Value)(e:Value)(s:Shared),A.frames=some (cenv::outer)->g L=.fr m->cenv.frame=some L->
 X.P L g A.frames e s->notedBy C.M A cenv (cameBackBy C.M A cenv (X.P L g A.frames)) e s
theorem FT.none{C:Cx}:FT C .none:=λJ J J J J J J J J J J h=>h.elim
section
variable{C:Cx}{X:bc}{W:En}{Q:Fl->Loc->aK->Prop}
theorem gv{g g':ac}{env:Env}(h:gD g env)(k:∀b m,g b=.fr m->g' b=g b):gD g' env:=
 let ⟨a,L,m,e,t⟩:=h; ⟨a,L,m,e,(k L m t).trans t⟩
noncomputable def gJ:Expr->Bool
 | .Set ..=>false
 | _=>true
theorem iO{e:Expr}{env:Env}{x:Value}(h:gJ e=true):foldedSetIterable e env x=pure x:=by
 cases e<;>first | rfl | exact nt h
end
noncomputable def xD:List String:=["enumerate","zip","dict_itemiterator","dict_reverseitemiterator","odict_iterator","itertools.zip_longest","itertools.pairwise"]
theorem iN{M:Model}{A:Around}{E:Value->Shared->Prop}{s:Shared}{t:Expr}{I:Addr}{v:Value}{o:Obj}{n:String}{Q:Unit->Shared->Prop}(ho:s.heap.get? I=some o)(hc:o.cls=.type n)(hn:xD.contains n=false)(h:Q () s) :
  wpAny M A (letOwnedTupleGo t (.ref I) v) Q E s:=by
 obtain⟨oc,od,oda,osl⟩:=o
 simp only at hc
 subst hc
 have body:∀a,wpAny M A (do
   let o <-load I
   match o.cls,o.data with
   | .type n,.fields vs=>
    if ["enumerate","zip","dict_itemiterator","dict_reverseitemiterator","odict_iterator","itertools.zip_longest","itertools.pairwise"].contains n&&vs[0]?==some (rawInt a) then
     rule "for.unpacks-the-owned-tuple"
     updateField I 0 .none
   | _,_=>pure ()) Q E s:=by
  intro a
  refine bx (λJ=>wpAny_load ho) ?_
  cases oda with
  | fields vs=>
   show wpAny M A (if (xD.contains n&&vs[0]?==some (rawInt a))=true then _ else _) Q E s
   rw[hn,Bool.false_and,if_neg bM]
   exact wpAny_pure h
  | _=>exact wpAny_pure h
 cases t<;>first | exact wpAny_pure h | (cases v<;>first | exact wpAny_pure h | exact body _)
section
variable{C:Cx}{X:bc}{W:En}{l:Loc}{σ:aK}{QI:(aK->Prop)->List V->aK->Prop}
theorem nI{g:ac}{s s':Shared}{I:Addr}(R:bV C g σ s)(hI:g I=.free)(h0:C.H0.get? I=none)(k:∀b o,b≠I->s.heap.get? b=some o->s'.heap.get? b=some o)(hg:s'.gens=s.gens:=by rfl)(ho:s'.os=s.os:=by rfl):bV C g σ s':=
 R.keepsT (λb o hb e=>k b o (λq=>by
  subst q; rcases hb with hb | hb
  ·exact hb hI
  ·exact hb h0) e) hg ho
theorem AX{i:Int}(h:0<=i)(h':i<2 ^ 62):pJ i=true:=by
 unfold pJ
 simp only[aZ,decide_eq_true_eq]
 exact⟨gH (by decide) h,rP h' (by decide)⟩
theorem I6(n:Int):jZ 0 n 1=(n.toNat:Int):=by
 unfold jZ
 rw[if_pos (by decide)]
 by_cases q:0<n
 ·rw[if_pos q,Int.sub_zero,Int.ediv_one,Int.sub_add_cancel,F6 (nu q)]
 ·rw[if_neg q,Int.toNat_of_nonpos (ey.mp q)]; rfl
end
noncomputable def cz(scope fs:Scope):Scope:=
 { scope with names:=scope.names.map λ(n,k)=>if (k==.free&&fs.kind==.function&&fs.names.lookup n==some .cell) then(n,.cell) else(n,k) }
theorem y2{scope fs:Scope}{env:Env}(h:env.scope=fs):relabel scope env=cz scope fs:=by subst h; rfl
noncomputable def f6{α:Type}(cells:List (Str×α)):List (Str×NameKind)->List (Str×α)->List (Str×α)
 | [],acc=>acc
 | (n,k)::r,acc=>f6 cells r (if k==.free then(match cells.lookup n with | some a=>(n,a)::acc | none=>acc) else acc)
noncomputable def sT(cells:List (Str×Nat))(names:List (Str×NameKind)):Bool:=names.all λx=>x.2 != .free||(cells.lookup x.1).isSome
theorem nK{scope:Scope}{env:Env}(h:∀x∈scope.names,x.2=.free->∃a,env.cells.lookup x.1=some a):closureFor scope env=pure (f6 env.cells scope.names []):=by
 have key:∀(names:List (Str×NameKind))(acc:List (Str×Addr)),(∀x∈names,x.2=.free->∃a,env.cells.lookup x.1=some a)->
   (forIn names acc λ(x:Str×NameKind)(cs:List (Str×Addr))=>(if (x.2==NameKind.free)=true then(do let c <-cellOf env x.1; pure (ForInStep.yield ((x.1,c)::cs))) else pure (ForInStep.yield cs):Sem (ForInStep (List (Str×Addr)))))=pure (f6 env.cells names acc):=by
  intro names
  induction names with
  | nil=>intro acc _; rfl
  | cons x r ih=>
   obtain⟨n,k⟩:=x
   intro acc h
   simp only[eK]
   by_cases hk:(k==NameKind.free)=true
   ·refine ik (h (n,k) (.head _) (by simpa using hk)) λa e=>?_
    have e':env.cells.lookup n=some a:=e
    have:cellOf env n=pure a:=by unfold cellOf; rw[e']
    have ec:f6 env.cells ((n,k)::r) acc=f6 env.cells r ((n,a)::acc):=by
     refine congrArg (f6 env.cells r) ((if_pos hk).trans ?_)
     rw[e']
    simp only[hk,if_true,this,pure_bind]
    rw[ec]
    exact ih _ λy hy=>h y (.tail _ hy)
   ·have ec:f6 env.cells ((n,k)::r) acc=f6 env.cells r acc:=by
     exact congrArg (f6 env.cells r) (if_neg hk)
    simp only[hk,if_false,pure_bind]
    rw[ec]
    exact ih _ λy hy=>h y (.tail _ hy)
 dsimp only[closureFor]
 have:=key scope.names [] h
 rw[this]
 rfl
theorem s8{g:ac}{cellsI:List (Str×Nat)}{cellsA:List (Str×Addr)}(h:∀x i,cellsI.lookup x=some i->∃a,cellsA.lookup x=some a/\g a=.main i) :
  ∀(names:List (Str×NameKind))(accI:List (Str×Nat))(accA:List (Str×Addr)),sT cellsI names=true->(∀x i,accI.lookup x=some i->∃a,accA.lookup x=some a/\g a=.main i)->
   ∀x i,(f6 cellsI names accI).lookup x=some i->∃a,(f6 cellsA names accA).lookup x=some a/\g a=.main i:=by
 intro names
 induction names with
 | nil=>exact λJ J J hacc=>hacc
 | cons nk r ih=>
  obtain⟨n,k⟩:=nk
  intro accI accA hf hacc
  simp only[sT,pK,aZ] at hf
  refine ih _ _ hf.2 ?_
  by_cases hk:(k==NameKind.free)=true
  ·simp only[hk,if_true]
   have hk':k=.free:=by exact of_decide_eq_true hk
   subst hk'
   have:(cellsI.lookup n).isSome=true:=by
    have:=hf.1
    exact this
   refine ik (dG.mp this) λi₀ Kq=>?_
   refine aM (h n i₀ Kq) λa₀ ea ga=>?_
   rw[Kq,ea]
   intro x i hx
   rw[jf] at hx ⊢
   cases q:x==n with
   | true=>rw[q] at hx; cases hx; exact a0 a₀ rfl ga
   | false=>rw[q] at hx; exact hacc x i hx
  ·simp only[hk,if_false]
   exact hacc
noncomputable def ex(scope:Scope)(W:En):En:=⟨cz scope W.sc,f6 W.cells scope.names [],W.d,W.calm,none⟩
def FX(C:Cx)(X:bc)(W:En):List Expr->Loc->aK->(Bool->aK->Prop)->Prop
 | [],_,σ,P=>P true σ
 | e::r,l,σ,P=>ST C X W e l σ λb aA=>if b=true then FX C X W r l aA P else P false aA
section
variable{C:Cx}{X:bc}{W:En}
theorem wV{M:Model}{A:Around}{cenv:Env}{Q:Bool->Shared->Prop}{E:Value->Shared->Prop}{ifs:List Expr}:∀{s:Shared},Q false s->
  wpAny M A (forIn ifs false λc r=>if r=true then do let ok <-isTrue c cenv (eval c cenv); pure (ForInStep.yield ok) else pure (ForInStep.yield r)) Q E s:=by
 induction ifs with
 | nil=>exact @λJ h=>wpAny_pure h
 | cons e r ih=>
  intro s h
  rw[eK]
  exact wpAny_bind (wpAny_pure (ih h))
theorem FX.run{A:Around}{cenv:Env}{L:Addr}{m:Str->Option Value}{P:Bool->aK->Prop}{ifs:List Expr}:∀{l:Loc}{σ:aK}{g:ac}{s:Shared},FX C X W ifs l σ P->kU C W l σ g A cenv L m s->
  wpAny C.M A (forIn ifs true λc r=>if r=true then do let ok <-isTrue c cenv (eval c cenv); pure (ForInStep.yield ok) else pure (ForInStep.yield r)) (tr C g P) (X.P L g A.frames) s:=by
 induction ifs with
 | nil=>exact @λl σ g s h p=>wpAny_pure (tr.here p.R h)
 | cons e r ih=>
  intro l σ g s h p
  rw[eK]
  refine wpAny_bind (wpAny_bind (ST.then p h λb cj aA aQ bH cf q=>wpAny_pure ?_))
  cases b with
  | true=>exact fR bH (ih q cf) λJ J h=>h.back bH
  | false=>exact wV (tr.back bH (tr.here cf.R q))
def qm(a b:Addr)(g g':ac):Prop:=∀c,c≠a->c≠b->g c≠.free->g' c=g c
theorem qm.trans{a b:Addr}{g g' g'':ac}(x:qm a b g g')(y:qm a b g' g''):qm a b g g'':=λc n n' h=>by
 have e:=x c n n' h
 rw[<-e] at h ⊢
 exact y c n n' h
theorem eG.two{L D:Addr}{g g':ac}(x:eG L g g'):qm L D g g':=λc n J h=>x c n h
theorem dA.two{L D:Addr}{g g':ac}(x:dA g g'):qm L D g g':=λc J J h=>x c h
theorem bV.reheld{g:ac}{σ:aK}{s:Shared}{D:Addr}{o o':Obj}{h':Heap}(R:bV C g σ s)(t:g D=.held o)(e:h'.get? D=some o')(hs:bC D s.heap h'):bV C (g.put D (.held o')) σ { s with heap:=h' }:=by
 have h0:C.H0.get? D=.none:=R.h0_none (by rw[t]; intro h; cases h) (by rw[t]; intro o h; cases h)
 have R1:bV C (g.put D .free) σ s:=R.retag (by rw[t]; exact λh=>h) trivial
 have R2:bV C (g.put D .free) σ { s with heap:=h' }:=R1.keepsT λb o hb e=>by
  by_cases q:b=D
  ·subst q; rw[aC] at hb; rcases hb with hb | hb
   ·exact absurd rfl hb
   ·exact absurd h0 hb
  ·exact(hs.2 b q).trans e
 have R3:=R2.retag (a:=D) (t:=.held o') (by rw[aC]; exact λh=>h) ⟨e,h0⟩
 rwa [A1] at R3
def CompPost(C:Cx)(gb:ac)(L D:Addr)(Q:List V->aK->Prop)(s':Shared):Prop:=
 ∃acc ys n g' σ' m',qm L D gb g'/\bV C g' σ' s'/\g' L=.fr m'/\g' D=.held (aR ys n)/\d0 g' acc ys/\Q acc σ'
theorem xS{g:ac}{L D:Addr}{s':Shared}{h':Heap}{Q:List V->aK->Prop}(hc:CompPost C g L D Q s')(hL:g L=.free)(hD:g D=.free)(hDL:D≠L)(hs:bC L s'.heap h')(hL0:C.H0.get? L=none)(hD0:C.H0.get? D=none) :
  ∃acc σ' g'',dA g g''/\bV C g'' (σ'.push (.list acc)) { s' with heap:=h' }/\g'' D=.main σ'.nx/\Q acc σ':=by
 obtain⟨acc,ys,n,g',σ',m',x,R,hm,hd,hacc,q⟩:=hc
 have R2:bV C (g'.put L .free) σ' { s' with heap:=h' }:=(R.retag (a:=L) (t:=.free) (by rw[hm]; exact λh=>h) trivial).keepsT λb o hb e=>by
  by_cases q:b=L
  ·subst q; rw[aC] at hb; rcases hb with hb | hb
   ·exact absurd rfl hb
   ·exact absurd hL0 hb
  ·exact(hs.2 b q).trans e
 have hd1:(g'.put L .free) D=.held (aR ys n):=(a9 _ _ hDL).trans hd
 have hobj:h'.get? D=some (aR ys n):=(hs.2 D hDL).trans (R.held _ _ hd)
 have xv1:dN g' (g'.put L .free):=(eG.put (L:=L) g' .free).v (by rw[hm]; exact λh=>h)
 have xv2:dN (g'.put L .free) ((g'.put L .free).put D .free):=(eG.put (L:=D) _ .free).v (by rw[hd1]; exact λh=>h)
 have xv3:dN ((g'.put L .free).put D .free) (((g'.put L .free).put D .free).put D (.main σ'.nx)):=dN.put (by rw[aC]; exact λh=>h) _
 have R4:=(R2.retag (a:=D) (t:=.free) (by rw[hd1]; exact λh=>h) trivial).newMain (a:=D) (o:=.list acc) (aC ..) hD0 (rn ys n hobj (((hacc.ext xv1).ext xv2).ext xv3)) ⟨_,hobj⟩
 refine ub acc σ' _ (λc hc=>?_) R4 (aC ..) q
 have h1:c≠L:=λe=>hc (e▸hL)
 have h2:c≠D:=λe=>hc (e▸hD)
 simp only[a9 _ _ h2,a9 _ _ h2,a9 _ _ h1]
 exact x c h1 h2 hc
noncomputable def pv(names:List (Str×NameKind)):Bool:=names.all λx=>x.2 != .cell
noncomputable def pf(names:List (Str×NameKind)):Bool:=names.all λx=>x.2 != .local||names.lookup x.1==some .local
theorem qL{names:List (Str×NameKind)}(h:pv names=true):∀y∈names,y.2≠.cell:=λy hy=>by
 have:=bu.mp h y hy
 simpa using this
theorem qI{names:List (Str×NameKind)}(h:pf names=true):∀y∈names,y.2=.local->names.lookup y.1=some .local:=λy hy e=>by
 have:=bu.mp h y hy
 simp only[e,bne_self_eq_false,Bool.false_or,beq_iff_eq] at this
 exact this
theorem uJ{g:ac}{L:Addr}{env:Env}{names:List (Str×NameKind)}(h:sT W.cells names=true)(E:qn W g L env):∀x∈names,x.2=.free->∃a,env.cells.lookup x.1=some a:=λx hx e=>by
 have:=bu.mp h x hx
 have:(W.cells.lookup x.1).isSome=true:=by simpa [e] using this
 obtain⟨i,hi⟩:=dG.mp this
 refine aM (E.cells x.1 i hi) λa ea J=>?_
 exact⟨a,ea⟩
structure om(W:En)(iter:Expr)(scope:Scope):Prop where
 cell:pv scope.names=true
 loc:pf scope.names=true
 free:sT W.cells scope.names=true
 kind:scope.kind=.function
 set:gJ iter=true
end
inductive UpM(C:Cx)(g:ac)(Q:V->List V->aK->Prop)(fx:Value×List Value)(s':Shared):Prop
 | mk (f:V)(fs:List V)(g':ac)(σ':aK)(x:dA g g')(R:bV C g' σ' s')(hf:VR g' f fx.1)(hfs:d0 g' fs fx.2)(q:Q f fs σ')
def SM(C:Cx)(X:bc)(W:En)(σ:aK)(d:V)(name:Str)(Q:V->List V->aK->Prop):Prop:=
 ∀g A L s ov (pl:Sem Bool),bV C g σ s->Ar g W.d W.calm A->VR g d ov->wpAny C.M A (getMethod ov name pl) (UpM C g Q) (X.P L g A.frames) s
section
variable{C:Cx}{X:bc}{W:En}{l:Loc}{σ:aK}{Q:V->aK->Prop}
theorem SE.meth{o:Expr}{name:Str}{apos pos:Pos}{args:List Expr}{pl:Env->Sem Bool}(hs:dP args=true)
  (he:∀env,eval (.Call (.Attribute o name apos) args [] pos) env=(do
   let ov <-eval o env
   standAt apos.atName
   let (f,first) <-holding [ov] (getMethod ov name (pl env))
   callWith pos f first (backTo pos (starEach args env)) (backToKw pos (keywordEach [] env))))
  (h:SE C X W o l σ λd aA=>SM C X W aA d name λf fs aT=>bI C f/\SL C X W args l aT λds ez=>SC C X W ez f (fs++ds) Q):SE C X W (.Call (.Attribute o name apos) args [] pos) l σ Q:=λg A cenv L m s p=>by
 simp only[he]
 refine wpAny_bind (SE.then p h λd ov cj aA aQ bH cf hv q=>?_)
 refine wpAny_bind (wpAny_standAt (wpAny_bind (wpAny_holding (fR bH (q cj A L aQ ov (pl cenv) cf.R cf.A hv) ?_))))
 rintro fx b8 ⟨f,fs,dR,aT,eN,dM,hf,hfs,hk,mh⟩
 exact fR (bH.trans eN) (tc hs hk (cf.step eN dM) hf hfs mh) λJ J h=>h.back (bH.trans eN)
theorem IsL.noDict{g:ac}{s:Shared}{d:V}{ds:List V}{v:Value}(h:IsL σ d ds)(R:bV C g σ s)(hv:VR g d v):s.TypeIs v "list"/\∀a,v=.ref a->∃o,s.heap.get? a=some o/\o.dict=none:=by
 refine lW (h.at R hv) λa vs n e3r ho J=>?_
 subst e3r
 exact⟨(a0 _ ho rfl),λb e=>by cases e; exact a0 _ ho rfl⟩
theorem SM.list{d:V}{ds:List V}{name:Str}{id:String}{QM:V->List V->aK->Prop}(hl:IsL σ d ds)(slot:Slot "list" name id)(hty:typeOf (.builtin id)=pure (.type "method_descriptor"))(h:QM (.val (.builtin id)) [d] σ):SM C X W σ d name QM:=λg A L s ov pl R hA hv=>by
 refine eV (hl.noDict R hv) λhT hd=>?_
 exact getMethod_builtin hT PySem.F.plainAttrs_list slot hty hd ⟨.val (.builtin id),[d],g,σ,dA.refl g,R,rfl,(bX ov [] rfl hv rfl),h⟩
theorem BV{ds:List V}(hz:ds.length<=1000000)(h:Q (.int ds.length) σ):SC C X W σ (.val (.builtin "len")) [.tup ds] Q:=by
 intro g A L s _ _ R hA rfl hq
 refine bD hq λv J e2r hv e4r=>?_
 refine bD (cS R hv) λa vs e2r ho hvs=>?_
 subst e2r
 subst e2r
 subst e4r
 refine PyProof.Rows.len_tuple (d9 ho) (by rw[ao,<-hvs.length]; exact zb hz rfl) (Up.here (d:=.int _) (R.toks _) ⟨_,rfl⟩ ?_)
 rw[ao,<-hvs.length]; exact h
theorem rX{d:V}{ds:List V}(hl:IsL σ d ds)(hz:ds.length<=1000000)(h:Q (.int ds.length) σ):SC C X W σ (.val (.builtin "len")) [d] Q:=by
 intro g A L s _ _ R hA rfl hq
 refine bD hq λv J e2r hv e4r=>?_
 subst e2r
 subst e4r
 refine lW (hl.at R hv) λa vs n e3r ho hvs=>?_
 rw[e3r]
 refine call_len_list (du ho) (by rw[ao,<-hvs.length]; exact zb hz rfl) (Up.here (d:=.int _) (R.toks _) ⟨_,rfl⟩ ?_)
 rw[ao,<-hvs.length]; exact h
theorem SC.range{n:Int}(h:Q (.rng 0 n) σ):SC C X W σ (.val (.type "range")) [.int n] Q:=by
 rintro g A L s _ _ R hA rfl ⟨_,_,rfl,⟨t,rfl⟩,rfl⟩
 obtain⟨R',x⟩:=(R.toks (s.toks+1+1)).newFroz (D6 0 n s.toks t (s.toks+1)) rfl
 refine call_range_1 ?_
 exact⟨.rng 0 n,_,σ,x,R',(m42 _ _ _ _ rfl (aC ..)),h⟩
theorem jI{g:ac}{s:Shared}{h':Heap}{c:Nat}{ds:List V}{vs:List Value}{a:Addr}(R:bV C g σ s)(hvs:d0 g ds vs)(ha:g a=.free)(ha0:C.H0.get? a=none)(hk:∀b o,b≠a->s.heap.get? b=some o->h'.get? b=some o)(ho:h'.get? a=some (aR vs c))
  (q:Q (.ref σ.nx) (σ.push (.list ds))){tk:Nat}:Up C g Q (.ref a) { s with heap:=h',toks:=tk }:=by
 have x:dA g (g.put a (.main σ.nx)):=dA.put ha _
 have R':bV C g σ { s with heap:=h',toks:=tk }:=R.keepsT λb o hb e=>hk b o (λq=>by
  subst q; rcases hb with hb | hb
  ·exact hb ha
  ·exact hb ha0) e
 exact⟨.ref σ.nx,_,_,x,R'.newMain (o:=.list ds) ha ha0 (rn vs c ho (hvs.ext x.v)) ⟨_,ho⟩,(a0 _ rfl (aC ..)),q⟩
theorem yG{ds:List V}(hz:ds.length<=1000000)(h:Q (.ref σ.nx) (σ.push (.list ds))):SC C X W σ (.val (.type "list")) [.tup ds] Q:=by
 intro g A L s _ _ R hA rfl hq
 refine bD hq λv J e2r hv e4r=>?_
 subst e2r
 subst e4r
 refine bD (cS R hv) λa vs e2r ho hvs=>?_
 rw[e2r]
 refine call_list_seq a (.inr rfl) ho rfl rfl (λh' c' hk hn=>?_) (by rw[ao,<-hvs.length,sizeLine_eq]; exact l1 0 1000000 0 16777216 hz rfl)
 exact jI R hvs (R.free_size (ad _)) (R.h0_size (ad _)) (λb o J e=>hk b o e) hn h (tk:=s.toks)
theorem wI{d:V}{ds:List V}(hl:IsL σ d ds)(hz:ds.length<=1000000)(h:Q (.ref σ.nx) (σ.push (.list ds))):SC C X W σ (.val (.type "list")) [d] Q:=by
 intro g A L s _ _ R hA rfl hq
 refine bD hq λv J e2r hv e4r=>?_
 subst e2r
 subst e4r
 refine lW (hl.at R hv) λa vs n e3r ho hvs=>?_
 rw[e3r]
 refine call_list_seq a (.inl rfl) ho rfl rfl (λh' c' hk hn=>?_) (by rw[ao,<-hvs.length,sizeLine_eq]; exact l1 0 1000000 0 16777216 hz rfl)
 exact jI R hvs (R.free_size (ad _)) (R.h0_size (ad _)) (λb o J e=>hk b o e) hn h (tk:=s.toks)
theorem BS{ds:List V}(h:Q (.tup ds) σ):SC C X W σ (.val (.type "tuple")) [.tup ds] Q:=by
 intro g A L s _ _ R hA rfl hq
 refine bD hq λv J e2r hv e4r=>?_
 refine bD (cS R hv) λa vs e2r ho hvs=>?_
 subst e2r
 subst e2r
 subst e4r
 have hv':=hv
 exact call_tuple_tup (d9 ho) (Up.here (d:=.tup ds) R hv' h)
theorem yD{d:V}{ds:List V}(hl:IsL σ d ds)(hz:ds.length<=1000000)(h:Q (.tup ds) σ):SC C X W σ (.val (.type "tuple")) [d] Q:=by
 intro g A L s _ _ R hA rfl hq
 refine bD hq λv J e2r hv e4r=>?_
 subst e2r
 subst e4r
 refine lW (hl.at R hv) λa vs n e3r ho hvs=>?_
 rw[e3r]
 refine call_tuple_list (du ho) (λh' hk=>?_) (by rw[ao,<-hvs.length,sizeLine_eq]; exact l1 0 1000000 0 16777216 hz rfl)
 have R1:bV C g σ { s with heap:=h' }:=R.keeps hk
 refine eV (R1.newFroz (aN vs) rfl) λR' x=>?_
 exact⟨.tup ds,_,σ,x,R',(bX _ vs rfl (aC ..) (hvs.ext x.v)),h⟩
theorem bV.setList{g:ac}{s:Shared}{h':Heap}{tk:Nat}{i:Nat}{a:Addr}{ds':List V}{vs':List Value}{n:Nat}(R:bV C g σ s)(t:g a=.main i)(hvs:d0 g ds' vs')(hs:∀b o,b≠a->s.heap.get? b=some o->h'.get? b=some o)(ho:h'.get? a=some (aR vs' n)):bV C g (σ.set i (.list ds')) { s with heap:=h',toks:=tk }:=
 R.upd (o:=.list ds') t (.inl rfl) hs ⟨_,ho⟩ (rn vs' n ho hvs)
theorem bV.listAt{g:ac}{s:Shared}{i:Nat}{ds:List V}{v:Value}(R:bV C g σ s)(hi:σ.get i=some (.list ds))(hv:VR g (.ref i) v):∃a vs n,v=.ref a/\g a=.main i/\s.heap.get? a=some (aR vs n)/\d0 g ds vs:=by
 refine aM hv λa e1r t=>?_
 subst e1r
 obtain⟨b,t',vs,n,e,r⟩:=R.objs i _ hi
 obtain rfl:=R.uniq a b i t t'
 exact ub a vs n rfl t e r
theorem SC.append{i:Nat}{ds:List V}{y:V}(hi:σ.get i=some (.list ds))(hz:ds.length<=1000000)(h:Q .none (σ.set i (.list (ds++[y])))):SC C X W σ (.val (.builtin "list.append")) [.ref i,y] Q:=by
 rintro g A L s _ _ R hA rfl ⟨v,_,rfl,hv,u,_,rfl,hu,rfl⟩
 refine mL (R.listAt hi hv) λa vs n e3r t ho hvs=>?_
 subst e3r
 refine wpAny_list_append_plain (items:=vs.toArray) ⟨n,ho⟩ (λh' hl hs=>?_) (by rw[ao,<-hvs.length,sizeLine_eq]; exact l1 0 1000000 0 16777216 hz rfl)
 refine ik hl λn' ho'=>?_
 have ho'':h'.get? a=some (aR (vs++[u]) n'):=by rw[ho']; simp
 exact⟨.none,g,_,dA.refl g,R.setList (tk:=s.toks) t (hvs.append (show d0 g [y] [u] from(bX u [] rfl hu rfl))) (λb o hb e=>(hs.2 b hb).trans e) ho'',rfl,h⟩
theorem SC.extend{i:Nat}{ds es:List V}{d:V}(hi:σ.get i=some (.list ds))(hl:IsL σ d es)(hz:ds.length+es.length<=1000000)(h:Q .none (σ.set i (.list (ds++es)))):SC C X W σ (.val (.builtin "list.extend")) [.ref i,d] Q:=by
 rintro g A L s _ _ R hA rfl ⟨v,_,rfl,hv,u,_,rfl,hu,rfl⟩
 refine mL (R.listAt hi hv) λa vs n e3r t ho hvs=>?_
 refine lW (hl.at R hu) λb us n2 e3r ho2 hus=>?_
 subst e3r
 subst e3r
 refine call_meets PySem.F.slot_list_extend (a0 _ ho rfl) PySem.F.entry_list_extend (PySem.F.args_list_extend_2 _ _) (PySem.AutoSeq1.list_extend_list_list_0 a vs.toArray n b us.toArray n2 ?_ ?_ ?_) ⟨ho,ho2,?_⟩
 ·have:jX (vs.toArray.size+us.toArray.size)=false:=by
   unfold jX
   simp only[ao,ao,<-hvs.length,<-hus.length]
   simp only[gt_iff_lt,decide_eq_false_iff_not,sizeLine_eq]; exact bv (l1 0 1000000 1 16777217 hz rfl)
  rw[this]; simp
 ·rw[ao,<-hvs.length,sizeLine_eq]; exact Z (Nat.le_of_add_right_le hz) (N rfl)
 ·rw[ao,ao,<-hvs.length,<-hus.length,sizeLine_eq]; exact l1 0 1000000 0 16777217 hz rfl
 ·obtain⟨n',ho''⟩:∃n',(s.heap.update a (cO λx=>x++us.toArray)).get? a=some (aR (vs++us) n'):=by
   refine⟨if (vs.toArray++us.toArray).size==vs.toArray.size then n else n+1,?_⟩
   rw[ay _ ho rfl]
   simp[cO]
  exact⟨.none,g,_,dA.refl g,R.setList (tk:=s.toks) t (hvs.append hus) (λb o hb e=>(ba _ _ (bA hb)).trans e) ho'',rfl,h⟩
end
section
variable{C:Cx}{X:bc}{W:En}{l:Loc}{σ:aK}{Q:V->aK->Prop}
theorem wF{ds:List V}{a:Nat}(h1:1<=a)(ha:a<=ds.length)(hz:ds.length<=1000000)(h:Q (.tup (ds.drop a)) σ):wr C X W σ (.tup ds) (some a) none Q:=by
 rintro g A L s ov vl vu R hA ho hl hu
 cases hl with
 | int _ t=>
  cases hu
  have R1:=R.push { cls:=.type "slice",data:=.fields #[.int (a:Int) t,.none,.none] }
  refine bD (cS R1 ho) λb vs e2r e r=>?_
  subst e2r
  refine bX ("tuple") _ slot_tuple_getitem.lookup ⟨_,e,rfl⟩ (PyProof.Rows.getItem_tuple_from (d9 e) (l9 _ _ _ _) h1 (by rw[ao,<-r.length]; exact ha) ?_ (by rw[ao,<-r.length,sizeLine_eq]; exact l1 0 1000000 0 16777216 hz rfl))
  refine eV (R1.newFroz (aN (vs.drop a)) rfl) λR2 x=>?_
  exact⟨.tup (ds.drop a),_,σ,x,R2,(bX _ (vs.drop a) rfl (aC ..) ((r.drop a).ext x.v)),h⟩
theorem wr.list{o:V}{ds:List V}{lo hi:Option Int}{es:List V}(ho:IsL σ o ds)(hz:ds.length<=1000000)(he:∀vs:List Value,vs.length=ds.length->∃a b,slicePick vs.toArray lo hi none=((vs.drop a).take b).toArray/\es=(ds.drop a).take b)(h:Q (.ref σ.nx) (σ.push (.list es))):wr C X W σ o lo hi Q:=by
 rintro g A L s ov vl vu R hA hv hl hu
 have R1:=R.push { cls:=.type "slice",data:=.fields #[vl,vu,.none] }
 refine lW (ho.at R1 hv) λb vs n e3r e r=>?_
 refine oq (he vs r.length.symm) λa c e1 e2=>?_
 subst e3r
 refine bX ("list") _ slot_list_getitem.lookup ⟨_,e,rfl⟩ (wpAny_getItem_list_slice (du e) (l9 _ _ _ _) hl hu .none (by decide) ?_ (by rw[ao,<-r.length,sizeLine_eq]; exact l1 0 1000000 0 16777216 hz rfl))
 rw[e1]
 subst e2
 exact jI (tk:=s.toks) R1 ((r.drop a).take c) (R1.free_size (ad _)) (R1.h0_size (ad _)) (λb o J e=>ab _ e) (ak _ rfl) h
theorem oC{o:V}{ds:List V}{b:Nat}(ho:IsL σ o ds)(hz:ds.length<=1000000)(h:Q (.ref σ.nx) (σ.push (.list (ds.take b)))):wr C X W σ o none (some b) Q:=
 wr.list ho hz (λvs J=>(rn 0 b (by rw[slicePick_upto']; rfl) rfl)) h
theorem u8{o:V}{ds:List V}{a:Nat}(ho:IsL σ o ds)(hz:ds.length<=1000000)(h:Q (.ref σ.nx) (σ.push (.list (ds.drop a)))):wr C X W σ o (some a) none Q:=
 wr.list ho hz (λvs hv=>(rn a ds.length (by rw[slicePick_from',m4 (by rw[HP]; exact Z (f9 vs.length a) (am hv))]) (by rw[m4 (by rw[HP]; exact f9 _ _)]))) h
theorem wG{x:Str}{j:Int}(hx:x.length<=1000000)(h:Q (.str (Txt.slice x none (some j))) σ):wr C X W σ (.str x) none (some j) Q:=by
 rintro g A L s ov vl vu R hA ⟨t,rfl⟩ hl hu
 cases hl
 cases hu with
 | int _ u=>
  refine SBH.sliceItem_ns (P:=λh=>∀b o,s.heap.get? b=some o->h.get? b=some o) (λh ob k b o e=>ab _ (k b o e)) (λJ J e=>e) (λh' t' k hk=>?_) (by rw[sizeLine_eq]; exact l1 0 1000000 0 16777216 hx rfl)
  exact⟨.str _,g,σ,dA.refl g,R.keeps hk,⟨_,rfl⟩,h⟩
def SR(g:ac):List (Str×V)->List (Str×Value)->Prop
 | [],l=>l=[]
 | (x,d)::r,l=>∃v t,l=(x,v)::t/\VR g d v/\SR g r t
theorem SR.ext{g g':ac}(x:dN g g'){sk:List (Str×V)}:∀{kvs:List (Str×Value)},SR g sk kvs->SR g' sk kvs:=by
 induction sk with
 | nil=>exact @λJ h=>h
 | cons hd0 _ ih=>
  obtain⟨_,_⟩:=hd0
  intro _ z1
  refine bD z1 λv t e a b=>?_
  exact bX v t e (a.ext x) (ih b)
theorem SR.keys{g:ac}{sk:List (Str×V)}:∀{kvs:List (Str×Value)},SR g sk kvs->kvs.map (·.1)=sk.map (·.1):=by
 induction sk with
 | nil=>exact @λJ h=>by cases h; rfl
 | cons hd0 _ ih=>
  obtain⟨_,_⟩:=hd0
  intro _ z1
  refine bD z1 λJ J e J b=>?_
  exact by rw[e]; simp[ih b]
theorem iz{prog:Program}{w:World}(x:Str)(t:Tok):(PySem.strKind prog w).is x (.str x t)=true:=by
 have:jd x (.str x t)=true:=by simp[jd]
 exact this
variable{QA:Loc->aK->Prop}
end
def KW(C:Cx)(X:bc)(W:En):List (Option Expr)->List Expr->Loc->aK->(List (Str×V)->aK->Prop)->Prop
 | [],[],_,σ,Q=>Q [] σ
 | some k::ks,v::vs,l,σ,Q=>SE C X W k l σ λdk aA=>∃x,dk=.str x/\SE C X W v l aA λd aT=>KW C X W ks vs l aT λr ez=>Q ((x,d)::r) ez
 | _,_,_,_,_=>False
section
variable{C:Cx}{X:bc}{W:En}{l:Loc}{σ:aK}{Q:V->aK->Prop}
def KR(g:ac):List (Str×V)->List (Value×Value)->Prop
 | [],l=>l=[]
 | (x,d)::r,l=>∃t v u,l=(.str x t,v)::u/\VR g d v/\KR g r u
theorem KR.carries{g:ac}{prog:Program}{w:World}{sk:List (Str×V)}:∀{vs:List (Value×Value)},KR g sk vs->∃kvs,Carries (PySem.strKind prog w) vs kvs/\SR g sk kvs:=by
 induction sk with
 | nil=>exact @λJ h=>by cases h; exact a0 [] trivial rfl
 | cons hd0 r ih=>
  obtain⟨x,d⟩:=hd0
  intro _ z1
  refine lW z1 λt v u e a b=>?_
  refine aM (ih b) λkvs c s=>?_
  subst e
  exact a0 ((x,v)::kvs) ⟨iz x t,rfl,c⟩ ⟨v,kvs,rfl,a,s⟩
theorem KW.run{pos:Pos}:∀{ks:List (Option Expr)}{vs:List Expr}{σ:aK}{QP:List (Str×V)->aK->Prop}{g:ac}{A:Around}{cenv:Env}{L:Addr}{m:Str->Option Value}{s:Shared},KW C X W ks vs l σ QP->kU C W l σ g A cenv L m s->
  wpAny C.M A (evalPairs (pairTrees ks vs cenv pos)) (λr s'=>∃sk g' σ',dA g g'/\bV C g' σ' s'/\KR g' sk r/\QP sk σ') (X.P L g A.frames) s:=by
 intro ks
 induction ks with
 | nil=>
  intro vs σ QP g A cenv L m s h p
  cases vs with
  | nil=>exact pairTrees_nil_walk (ub [] g σ (dA.refl g) p.R rfl h)
  | cons _ _=>exact h.elim
 | cons ko ks ih=>
  intro vs σ QP g A cenv L m s h p
  cases ko with
  | none=>cases vs<;>exact h.elim
  | some k=>
   cases vs with
   | nil=>exact h.elim
   | cons v vs=>
    refine pairTrees_cons_walk (wpAny_mono (h g A cenv L m s p) ?_ λJ J h=>h)
    rintro kv aQ ⟨dk,cj,aA,bH,b7,hk,x,rfl,q⟩
    obtain⟨t,rfl⟩:=hk
    have cf:=p.step bH b7
    refine wpAny_mono (q cj A cenv L m aQ cf) ?_ λJ J h=>X.mono bH h
    rintro vv b8 ⟨d,dR,aT,eN,dM,hv,mh⟩
    refine wpAny_mono (ih mh (cf.step eN dM)) ?_ λJ J h=>X.mono (bH.trans eN) h
    intro r uW hq
    refine mL hq λsk rR ez ml k0 hr tP=>?_
    exact ub ((x,d)::sk) rR ez ((bH.trans eN).trans ml) k0 ⟨t,vv,r,rfl,hv.ext ml.v,hr⟩ tP
theorem d0.replicate{g:ac}{d:V}{v:Value}(h:VR g d v):∀k:Nat,d0 g (bZ k d) (bZ k v)
 | 0=>rfl
 | k+1=>(bX v _ rfl h (d0.replicate h k))
theorem Jl{A:Around}{E:Value->Shared->Prop}{s:Shared}{a:Addr}{items:Array Value}{k:Nat}{x:Int}{u:Tok}{Q:Value->Shared->Prop}
  (hl:s.heap.get? a=some { cls:=.type "list",dict:=none,data:=.seq items k,slots:=#[] })
  (hlo:-(2 ^ 63:Int)<=x)(hhi:x<2 ^ 63)(hsz:items.size*x.toNat<=2 ^ 24)
  (h:Q (.ref s.heap.objs.size) { s with heap:=s.heap.push { cls:=.type "list",data:=.seq (List.foldl (λx1 x2=>x1++x2) #[] (bZ (if items.isEmpty=true then 0 else x.toNat) items)) } }) :
  wpAny C.M A (binaryOp .Mult (.ref a) (.int x u)) Q E s:=
 wpAny_binaryOp_repeat_ref (T:="list") (U:="int") rfl ⟨_,hl,rfl⟩ (λs'=>typeIs_int s' x u) noFill_list_mul PySem.F.fills_int_mul PySem.F.slot_int_rmul repeat_list PySem.F.slot_int_index.lookup
  (call_meets PySem.F.slot_int_rmul (typeIs_int s x u) PySem.F.entry_int_rmul (PySem.F.args_int_rmul_2 _ _) (int___rmul___int_list x u a items k)
   ⟨hl,rfl,⟨_,hl,rfl⟩,call_meets PySem.F.slot_list_mul ⟨_,hl,rfl⟩ PySem.F.entry_list_mul (PySem.F.args_list_mul_2 _ _)
    (AutoListH.list___mul___list_int_3 a items k x u (by simp[Builtin.List.listFitsIndex]; simp_all) (kX.mpr (Z hsz (N rfl))) (by simp[jX,sizeLine]; assumption))
    ⟨hl,h⟩⟩)
theorem xO{α:Type}(w:α):∀k:Nat,(bZ k [w]).flatten=bZ k w
 | 0=>rfl
 | k+1=>by rw[List.replicate_succ,List.flatten_cons,xO w k]; rfl
theorem wD{o d:V}{k:Nat}(ho:IsL σ o [d])(hk:k<=1000000)(h:Q (.ref σ.nx) (σ.push (.list (bZ k d)))):SV C X W σ [o,.int k] (tY .Mult) Q:=by
 rintro g A L s _ R hA ⟨v,_,rfl,hv,_,_,rfl,⟨u,rfl⟩,rfl⟩
 obtain⟨a,vs,n,rfl,e,w,r,rfl,hw,hr⟩:=ho.at R hv
 have e2:(bZ (k:Int).toNat [w]).flatten=bZ k w:=by rw[eQ,xO]
 subst hr
 refine Jl (items:=[w].toArray) e (by exact jj _) (zb hk rfl) (by simp; exact l1 0 1000000 0 16777216 hk rfl) ?_
 rw[listMul_foldl_if]
 rw[e2]
 exact jI (tk:=s.toks) R (d0.replicate hw k) (R.free_size (ad _)) (R.h0_size (ad _)) (λb o J e=>ab _ e) (ak _ rfl) h
end
set_option tactic.hygienic true in
theorem zh(t:SetTable)(es:Array (Int×Value))(h:Int)(x:Value):(layNew t es h x).2.1.led=t.led:=by
 unfold layNew
 split
 ·rename_i slot wd _
  show((t.put slot).1.orStandIn _).led=t.led
  unfold AE
  split<;>rfl
 ·rfl
set_option tactic.hygienic true in
theorem vB(t:SetTable)(es:Array (Int×Value))(wanted:Nat):(relayAll t es wanted).2.1.led=t.led:=by
 unfold relayAll
 split
 ·rename_i t' order e
  have:t'.led=t.led:=by
   unfold C8 iQ at e
   cases q:kH (gM wanted - 1) (Array.map (λx=>x.fst) es) with
   | none=>rw[q] at e; cases e
   | some owner=>rw[q] at e; cases e; rfl
  dsimp only
  split
  ·exact this
  ·rfl
 ·rfl
section
variable{prog:Program}{w:World}{A:Around}{E:Value->Shared->Prop}{s:Shared}{a:Addr}{vs:List Value}
theorem Ao(a:Value){Q₁:Value->Shared->Prop}
  (h:Q₁ (.ref s.heap.objs.size) { s with heap:=s.heap.push { cls:=.type "set",dict:=none,data:=.set #[] 0 (.fresh 0 0 (!w.params.followText "set-order")) } }) :
  codeAny (model prog w) A (.call (.builtin "set.__new__") ⟨[.type "set",a],[]⟩) (wants Q₁ E) s:=by
 have hsub:=sub_set_self
 refine codeAny_of_tree ?_
 refine wpAny_bind (wpAny_of_eq (PySem.F.newCall_set_1 a) (wpAny_pure ⟨plainId_quiet PySem.F.plain_set_new _,codeAny_builtin PySem.F.entry_set_new ?_⟩))
 delta Builtin.«set.__new__» IH
 obtain⟨hp,g,d,tk,os⟩:=s
 wp_walk
 refine wpAny_askSetting (wpAny_pure ?_)
 dsimp only
 refine wpAny_bind (wpAny_alloc (wpAny_pure ?_))
 exact wpAny_pure h
end
theorem bS:Slot "set_iterator" "__next__" "set_iterator.__next__":=
 .of (owner:="set_iterator") (n:="__next__") (by kernel_rfl) (by decide+kernel) (by decide+kernel) (by decide+kernel)
  (by first | exact .inl (by decide+kernel) | exact .inr (by decide+kernel)) (by kernel_rfl)
theorem fe:entryFor table "set_iterator.__next__"=some Builtin.«set_iterator.__next__»:=entryFor_of_tree (by kernel_rfl)
theorem fD(a:Value):argsOk "set_iterator.__next__" ⟨[a],[]⟩:=by kernel_rfl
theorem s5:entryFor table "set.__iter__"=some Builtin.«frozenset.__iter__»:=
 entryFor_alias (id':="frozenset.__iter__") (by kernel_rfl) rfl (by decide+kernel) (by kernel_rfl)
theorem kL{α:Type}:∀{l:List α}{i:Nat}(h:i<l.length),(l[i]::l.eraseIdx i).Perm l
 | a::r,0,_=>.refl _
 | a::r,i+1,h=>by
  have h':i<r.length:=by simpa using h
  exact(rO _ _ _).trans ((kL h').cons _)
theorem vJ{α:Type}(next:Nat->Nat)(fuel:Nat):∀(k:Nat)(left:List α)(out:Array α),left.length<=fuel->(pickOrder.go next fuel k left out).toList.Perm (out.toList++left):=by
 induction fuel with
 | zero=>
  intro k left out h
  cases left with
  | nil=>rw[dq]; exact .refl _
  | cons a r=>exact absurd h (Db _)
 | succ fuel ih=>
  intro k left out h
  cases left with
  | nil=>rw[dq]; exact .refl _
  | cons a r=>
   have hlt:next k % (a::r).length<(a::r).length:=ww _ (Nat.zero_lt_succ _)
   have e:pickOrder.go next (fuel+1) k (a::r) out=pickOrder.go next fuel (k+1) ((a::r).eraseIdx (next k % (a::r).length)) (out.push (a::r)[next k % (a::r).length]):=by
    show(match (a::r)[next k % (a::r).length]? with | some x=>_ | none=>_)=_
    rw[aI hlt]
   rw[e]
   refine(ih (k+1) _ _ (by rw[wn hlt]; exact jw h)).trans ?_
   rw[qU,iF]
   exact List.Perm.append_left _ (kL hlt)
theorem sA{α:Type}(next:Nat->Nat)(xs:Array α):(pickOrder next xs).toList.Perm xs.toList:=by
 exact(vJ next xs.size 0 xs.toList #[] (by simp)).trans (by rfl)
section
variable{prog:Program}{w:World}{A:Around}{E:Value->Shared->Prop}{s:Shared}
theorem vj{src:Source}{n:Nat}{Q:Nat->Shared->Prop}(hn:n≠0)(h:∀i,i<n->Q i { s with drawn:=s.drawn.bump src }):wpAny (model prog w) A (choose src n) Q E s:=
 λΓ p J=>⟨hn,h _ (ww _ (qR hn))⟩
theorem mU{α:Type}:∀(n:Nat)(xs:List α)(s:Shared)(Q:List α->Shared->Prop),xs.length<=n->(∀ys d,ys.Perm xs->Q ys { s with drawn:=d })->wpAny (model prog w) A (drawOrder n xs) Q E s
 | 0,xs,s,Q,hn,h=>by
  have:xs=[]:=fq (Dd.mp hn)
  subst this
  exact wpAny_pure (h [] s.drawn (.refl _))
 | n+1,[],s,Q,hn,h=>wpAny_pure (h [] s.drawn (.refl _))
 | n+1,x::xs,s,Q,hn,h=>by
  refine wpAny_bind (vj (by simp) λi hi=>?_)
  have hi':i<(x::xs).length:=hi
  rw[aI hi']
  refine wpAny_bind (mU n _ _ _ (by rw[wn hi']; simp at hn ⊢; assumption) λys d hp=>?_)
  exact wpAny_pure (h _ _ ((List.Perm.cons _ hp).trans (kL hi')))
end
noncomputable abbrev li(first:Value)(i:Nat)(S:Addr)(size n:Nat):Obj:={ cls:=.type "set_iterator",data:=.fields #[first,rawInt i,.ref S,rawInt size,rawInt n] }
section
variable{prog:Program}{w:World}{A:Around}{E:Value->Shared->Prop}{s:Shared}{S I:Addr}{es:Array (Int×Value)}{n:Nat}{t:SetTable}{ord:List Value}
theorem fQ{Q:Bool->Shared->Prop}(h:Q (w.params.followText "set-order") s):wpAny (model prog w) A setsByText Q E s:=by
 exact wpAny_bind (wpAny_askSetting (wpAny_pure h))
theorem w6{first x:Value}{i size n:Nat}{y:Value}{Q:Unit->Shared->Prop}(hI:s.heap.get? I=some (li first i S size n))
  (h:∀h',h'.get? I=some { cls:=.type "set_iterator",data:=.fields #[x,y,.ref S,rawInt size,rawInt n] }->bC I s.heap h'->Q () { s with heap:=h' }) :
  wpAny (model prog w) A (setField (.ref I) 0 x>>=λJ=>setField (.ref I) 1 y) Q E s:=by
 have e1:(s.heap.update I (bF (·.setIfInBounds 0 x))).get? I=some { cls:=.type "set_iterator",data:=.fields #[x,rawInt i,.ref S,rawInt size,rawInt n] }:=ay _ hI rfl
 refine wpAny_bind (wpAny_setField hI rfl (by simp) ?_)
 refine wpAny_setField e1 rfl (by simp) (h _ ?_ ((aD ..).trans (aD ..)))
 exact ay _ e1 rfl
theorem vz{first:Value}{i size n:Nat}{y:Value}{Q:Unit->Shared->Prop}(hI:s.heap.get? I=some (li first i S size n))
  (h:∀h',h'.get? I=some { cls:=.type "set_iterator",data:=.fields #[first,y,.ref S,rawInt size,rawInt n] }->bC I s.heap h'->Q () { s with heap:=h' }) :
  wpAny (model prog w) A (setField (.ref I) 1 y) Q E s:=
 wpAny_setField hI rfl (by simp) (h _ (ay _ hI rfl) (aD ..))
theorem iM{Q':Array (Int×Value)->Shared->Prop}(hS:s.heap.get? S=some (c0 es n t))(hf:t.fits es.size=true)(h:Q' es s):wpAny (model prog w) A (setEntries S) Q' E s:=by
 exact wpAny_bind (wpAny_setState_of hS rfl hf (wpAny_pure h))
theorem lI{α:Type}{p q:Sem α}{Q:α->Shared->Prop}{n:Nat}(h:wpAny (model prog w) A q Q E s):wpAny (model prog w) A (if ((((n:Nat):Int) != ((n:Nat):Int))=true) then p else q) Q E s:=by
 rw[if_neg (by simp)]; exact h
theorem oW{k i:Nat}{Q:Option (Value×Nat)->Shared->Prop}(hS:s.heap.get? S=some (c0 es n t))(hf:t.fits es.size=true)(hby:w.params.followText "set-order"=true)(h:Q ((pickOrder (w.params.setOrder S n) es)[i]?.map λe=>(e.2,k)) s):wpAny (model prog w) A (setNext S k i n) Q E s:=by
 unfold setNext
 refine wpAny_bind (wpAny_setState_of hS rfl hf (bx (λJ=>fQ) ?_))
 rw[hby,if_pos rfl,if_neg (by simp)]
 refine wpAny_bind (wpAny_bind (wpAny_setState_of hS rfl hf (bx (λJ=>fQ) ?_)))
 rw[hby,if_pos rfl]
 exact wpAny_bind (wpAny_askSetting (wpAny_pure (wpAny_pure h)))
theorem su{i k slot:Nat}{x:Value}{Q:Option Value->Shared->Prop}(hS:s.heap.get? S=some (c0 es n t))(hf:t.fits es.size=true)(hI:s.heap.get? I=some (li (rawInt k) i S es.size n))
  (hN:∀(E:Value->Shared->Prop)(Q':Option (Value×Nat)->Shared->Prop),Q' (some (x,slot)) s->wpAny (model prog w) A.in1 (setNext S k i n) Q' E s)
  (hQ:∀h',h'.get? I=some { cls:=.type "set_iterator",data:=.fields #[rawInt slot,rawInt (i+1:Nat),.ref S,rawInt es.size,rawInt n] }->bC I s.heap h'->Q (some x) { s with heap:=h' }):wpAny (model prog w) A (pyNext (.ref I)) Q E s:=by
 unfold pyNext
 refine wpAny_bind (wpAny_attempt (wpAny_callSpecial?_slot (name:=di "__next__") ⟨_,hI,rfl⟩ bS
  (wpAny_call_entry bS ⟨_,hI,rfl⟩ fe ?_ (fD _))))
 show wpAny _ _ (fieldsOf (.ref I)>>=_) _ _ s
 refine bx (λJ=>wpAny_fieldsOf hI rfl) ?_
 refine wpAny_bind (iM hS hf (lI ?_))
 refine bx (λJ=>hN _ _) ?_
 show wpAny _ _ (setField (.ref I) 0 (rawInt slot)>>=λJ=>setField (.ref I) 1 (rawInt ((i:Int)+1))>>=λJ=>ret x) _ _ s
 rw[<-bind_assoc]
 exact wpAny_bind (w6 hI λh' hg hs'=>wpAny_pure (a0 _ rfl (wpAny_pure (hQ h' hg hs'))))
inductive JU(s:Shared)(I:Addr)(e:Value)(s'':Shared):Prop
 | mk (a:Addr)(h':Heap)(he:e=.ref a)(hs:s''={ s with heap:=h' })(ht:s''.TypeIs (.ref a) "StopIteration")(hx:ij I s.heap h')
theorem sr{α:Type}{s':Shared}{Q':α->Shared->Prop}(hh:A.handled=none)(h1:s'.gens=s.gens)(h2:s'.drawn=s.drawn)(h3:s'.os=s.os)(h4:s'.toks=s.toks)(hx:ij I s.heap s'.heap) :
  wpAny (model prog w) A.in1 (newExc (.type "StopIteration") []>>=λx=>raiseNew (α:=α) x) Q' (JU s I) s':=by
 refine wpAny_bind ?_
 refine wpAny_bind (wpAny_newObj_type ?_ (by size_fits))
 refine wpAny_bind (m:=firstArgMember _ _) (wpAny_of_eq (a:=gT) (by first | rfl | (simp only[firstArgMember]; rfl)) ?_)
 refine wpAny_newObj_type ?_ (by size_fits)
 refine bx (λJ=>wpAny_handled) ?_
 rw[show A.in1.handled=none from hh]
 refine wpAny_bind (wpAny_pure (wpAny_throw ?_))
 obtain⟨hp,g',d',t',o'⟩:=s'
 dsimp only at h1 h2 h3 h4
 subst h1; subst h2; subst h3; subst h4
 exact⟨_,_,rfl,rfl,(a0 _ (ak _ rfl) rfl),(hx.push _).push _⟩
theorem sv{i k:Nat}{Q:Option Value->Shared->Prop}(hh:A.handled=none)(hS:s.heap.get? S=some (c0 es n t))(hf:t.fits es.size=true)(hI:s.heap.get? I=some (li (rawInt k) i S es.size n))
  (hN:∀(E:Value->Shared->Prop)(Q':Option (Value×Nat)->Shared->Prop),Q' none s->wpAny (model prog w) A.in1 (setNext S k i n) Q' E s)
  (hQ:∀h',ij I s.heap h'->Q none { s with heap:=h' }):wpAny (model prog w) A (pyNext (.ref I)) Q E s:=by
 unfold pyNext
 refine wpAny_bind (wpAny_attempt (wpAny_callSpecial?_slot (name:=di "__next__") ⟨_,hI,rfl⟩ bS
  (wpAny_call_entry bS ⟨_,hI,rfl⟩ fe ?_ (fD _))))
 show wpAny _ _ (fieldsOf (.ref I)>>=_) _ _ s
 refine bx (λJ=>wpAny_fieldsOf hI rfl) ?_
 refine wpAny_bind (iM hS hf (lI ?_))
 refine bx (λJ=>hN _ _) ?_
 refine wpAny_bind (wpAny_setField hI rfl (by simp) (wpAny_mono (sr (s:=s) (I:=I) (Q':=λJ J=>False) hh rfl rfl rfl rfl (aD ..).extBut) (λJ J f=>f.elim) ?_))
 rintro e s'' ⟨a,h',rfl,rfl,ht,hx⟩
 exact wpAny_bind (wpAny_isInstance (T:="StopIteration") (b:=true) ht isSubtype_stop (wpAny_pure (hQ h' hx)))
theorem filterMap_get{es:Array (Int×Value)}:∀{ps:List Nat},(∀p∈ps,p<es.size)->∀i:Nat,(ps.filterMap λp=>(es[p]?).map λe:Int×Value=>e.2)[i]?=(ps[i]?).bind λp:Nat=>(es[p]?).map λe:Int×Value=>e.2
 | [],_,_=>rfl
 | p::r,h,i=>by
  have hp:=h p (.head _)
  have e1:(es[p]?).map (λe:Int×Value=>e.2)=some es[p].2:=by rw[bR hp]; rfl
  simp only[pI,e1]
  cases i with
  | zero=>simp[e1]
  | succ i=>simpa using filterMap_get (λq hq=>h q (.tail _ hq)) i
theorem q8(es:Array (Int×Value)):((dh es.size).filterMap λp=>(es[p]?).map λe:Int×Value=>e.2)=es.toList.map (·.2):=by
 apply rx
 intro i
 simp only[filterMap_get (λp hp=>bz.mp hp) i,bB,(i0:es.toList[i]?=es[i]?)]
 by_cases hi:i<es.size
 ·rw[pH hi]; rfl
 ·rw[cQ (l:=dh es.size) (by rw[eO]; exact aF hi),d7 (aF hi)]; rfl
theorem so:typeLookup (.type "set") "__len__"=pure (some (.builtin "set.__len__")):=PySem.F.slot_set_len.lookup
end
theorem d0.strsAre{g:ac}{ss:List Str}:∀{vs:List Value},d0 g (ss.map V.str) vs->StrsAre vs ss:=by
 induction ss with
 | nil=>exact @λJ h=>by cases h; exact .nil
 | cons x r ih=>exact @λJ z=>bD z λv t e hv b=>ik hv λtk hv=>by subst e; subst hv; exact .cons x tk (ih b)
section
variable{prog:Program}{w:World}{A:Around}{E:Value->Shared->Prop}{s:Shared}{S I:Addr}{es:Array (Int×Value)}{n:Nat}{t:SetTable}
end
section
variable{C:Cx}{X:bc}{W:En}{l:Loc}{σ:aK}{Q:V->aK->Prop}
end
section
variable{prog:Program}{w:World}{A:Around}{E:Value->Shared->Prop}{s:Shared}
theorem gA{it t:Addr}{i:Nat}{items:Array Value}{x:Value}{Q:Value->Shared->Prop}(hit:IsTupIter s.heap it t i)(ht:IsTup s.heap t items)(hx:items[i]?=some x)
  (hQ:∀h',IsTupIter h' it t (i+1)->bC it s.heap h'->Q x { s with heap:=h' }):wpAny (model prog w) A (fi (.ref it)) Q E s:=by
 refine lL (id hit) λo ho hc hd=>?_
 obtain⟨ol,hol,_,nl,hdl⟩:=ht
 refine wpAny_bind (wpAny_callSpecial?_slot (name:=di "__next__") hit.typeIs slot_tupleiter_next (wpAny_call_entry slot_tupleiter_next hit.typeIs entry_tupleiter_next ?_ (args_tupleiter_next _)))
 show wpAny _ _ (field (.ref it) 0>>=_) _ _ s
 refine bx (λJ=>wpAny_field ho hd (x:=.ref t) rfl) ?_
 refine bx (λJ=>wpAny_field ho hd (x:=.int i 0) rfl) ?_
 refine bx (λJ=>wpAny_seqItems hol hdl) ?_
 simp only[eQ,hx]
 refine wpAny_bind (wpAny_setField ho hd (by simp) (wpAny_pure (a0 x rfl (wpAny_pure (hQ _ ?_ (aD ..))))))
 exact⟨_,ay _ ho (C2 (kW hd _)),(HJ ..).trans hc,by
  rw[kW hd]; simp[rawInt]⟩
theorem jH{it t:Addr}{i:Nat}{items:Array Value}{Q:Value->Shared->Prop}(hh:A.handled=none)(hit:IsTupIter s.heap it t i)(ht:IsTup s.heap t items)(hx:items[i]?=none)
  (hE:∀h' e,ij it s.heap h'->(∃o,h'.get? e=some o/\o.cls=.type "StopIteration")->E (.ref e) { s with heap:=h' }):wpAny (model prog w) A (fi (.ref it)) Q E s:=by
 refine lL (id hit) λo ho hc hd=>?_
 obtain⟨ol,hol,_,nl,hdl⟩:=ht
 refine wpAny_bind (wpAny_callSpecial?_slot (name:=di "__next__") hit.typeIs slot_tupleiter_next (wpAny_call_entry slot_tupleiter_next hit.typeIs entry_tupleiter_next ?_ (args_tupleiter_next _)))
 show wpAny _ _ (field (.ref it) 0>>=_) _ _ s
 refine bx (λJ=>wpAny_field ho hd (x:=.ref t) rfl) ?_
 refine bx (λJ=>wpAny_field ho hd (x:=.int i 0) rfl) ?_
 refine bx (λJ=>wpAny_seqItems hol hdl) ?_
 simp only[eQ,hx]
 refine wpAny_bind (wpAny_rule (wpAny_bind (wpAny_setField ho hd (by simp) ?_)))
 refine wpAny_bind ?_
 refine bx (λJ q=>wpAny_newObj_type q (by size_fits)) ?_
 refine wpAny_bind (m:=firstArgMember _ _) (wpAny_of_eq (a:=gT) (by first | rfl | (simp only[firstArgMember]; rfl)) ?_)
 refine wpAny_newObj_type ?_ (by size_fits)
 refine bx (λJ=>wpAny_handled) ?_
 first | rw[show A.in1.handled=none from hh] | rw[hh]
 refine wpAny_bind (wpAny_pure (wpAny_throw ?_))
 exact hE _ _ (((aD ..).extBut.push _).push _) (a0 _ (ak _ rfl) rfl)
theorem Fy{e it:Addr}{i:Int}{x old:Value}{St:Heap->Prop}{Q:Option Value->Shared->Prop}(he:IsEnum s.heap e it i old)(hne:e≠it)
  (fr:∀h h',St h->(∀o,h.get? it=some o->h'.get? it=some o)->St h')
  (hin:∀(A:Around)(E:Value->Shared->Prop)(Q':Value->Shared->Prop),(∀h',St h'->bC it s.heap h'->Q' x { s with heap:=h' })->wpAny (model prog w) A (fi (.ref it)) Q' E s)
  (hQ:∀h',IsEnumOut h' e it (i+1) x s.heap.objs.size->St h'->h'.get? s.heap.objs.size=some (aN [.int i s.toks,x])->
   (∀b o,b≠e->b≠it->s.heap.get? b=some o->h'.get? b=some o)->Q (some (.ref s.heap.objs.size)) { s with heap:=h',toks:=s.toks+1 }):wpAny (model prog w) A (pyNext (.ref e)) Q E s:=by
 have hT:s.TypeIs (.ref e) "enumerate":=(a0 _ he rfl)
 refine wpAny_bind (wpAny_attempt (wpAny_callSpecial?_slot (name:=di "__next__") hT PySem.F.slot_enumerate_next (wpAny_call_entry PySem.F.slot_enumerate_next hT PySem.F.entry_enumerate_next ?_ (PySem.F.args_enumerate_next_1 _))))
 show wpAny _ _ (field (.ref e) 2>>=_) _ _ _
 refine bx (λJ q=>wpAny_field he rfl (x:=.ref it) rfl q) ?_
 refine tj (λJ=>hin _ _ _) λiq uY Dn=>?_
 have gN:=aD iq e (bF (·.setIfInBounds 3 (rawInt (i+1))))
 have AN:IsEnum iq e it i old:=(Dn.2 e hne).trans he
 refine bx (λJ q=>wpAny_field AN rfl (x:=rawInt i) rfl q) ?_
 refine bx (λJ q=>wpAny_field AN rfl (x:=.none) rfl q) ?_
 refine bx (λJ=>wpAny_mkInt) ?_
 refine wpAny_bind (wpAny_setField AN rfl (by simp) ?_)
 have wA:IsEnum (iq.update e (bF (·.setIfInBounds 3 (rawInt (i+1))))) e it (i+1) old:=ay _ AN rfl
 generalize iq.update e (bF (·.setIfInBounds 3 (rawInt (i+1))))=jy at wA gN ⊢
 have H9:IsEnum (jy.update e (bF (·.setIfInBounds 4 .none))) e it (i+1) old:=ay _ wA rfl
 refine wpAny_bind (wpAny_setField wA rfl (by simp) ?_)
 have Dm:=aD jy e (bF (·.setIfInBounds 4 .none))
 generalize jy.update e (bF (·.setIfInBounds 4 .none))=BF at H9 Dm ⊢
 have hsz:BF.objs.size=s.heap.objs.size:=by rw[Dm.1,gN.1,Dn.1]
 refine wpAny_bind (wpAny_newTuple ?_)
 have HW:(BF.push (aN [.int i s.toks,x])).get? s.heap.objs.size=some (aN [.int i s.toks,x]):=by rw[<-hsz]; exact ak _ rfl
 have wz:IsEnum (BF.push (aN [.int i s.toks,x])) e it (i+1) old:=ab _ H9
 have Du:∀b o,b≠e->iq.get? b=some o->(BF.push (aN [.int i s.toks,x])).get? b=some o:=λb o hb q=>ab _ ((Dm.2 b hb).trans ((gN.2 b hb).trans q))
 show wpAny _ _ (HT (.ref e)>>=_) _ _ { s with heap:=BF.push (aN [.int i s.toks,x]),toks:=s.toks+1 }
 rw[hsz]
 generalize BF.push (aN [.int i s.toks,x])=Gk at wz HW Du ⊢
 refine wpAny_bind ?_
 refine wpAny_bind (wpAny_field wz rfl (x:=.none) rfl (wpAny_pure ?_))
 refine wpAny_bind (wpAny_rule (wpAny_bind (wpAny_field wz rfl (x:=old) rfl (wpAny_bind (wpAny_setField wz rfl (by simp) ?_)))))
 have Dw:IsEnum (Gk.update e (bF (·.setIfInBounds 5 x))) e it (i+1) x:=ay _ wz rfl
 have HZ:=aD Gk e (bF (·.setIfInBounds 5 x))
 generalize Gk.update e (bF (·.setIfInBounds 5 x))=IO at Dw HZ ⊢
 refine wpAny_bind ?_
 refine bx (λJ q=>wpAny_setField Dw rfl (by simp) q) ?_
 have Dv:IsEnumOut (IO.update e (bF (·.setIfInBounds 0 (rawInt s.heap.objs.size)))) e it (i+1) x s.heap.objs.size:=ay _ Dw rfl
 have HY:=aD IO e (bF (·.setIfInBounds 0 (rawInt s.heap.objs.size)))
 generalize IO.update e (bF (·.setIfInBounds 0 (rawInt s.heap.objs.size)))=IN at Dv HY ⊢
 refine wpAny_setField Dv rfl (by simp) ?_
 have H8:IsEnumOut (IN.update e (bF (·.setIfInBounds 1 (.bool false)))) e it (i+1) x s.heap.objs.size:=ay _ Dv rfl
 have HX:=aD IN e (bF (·.setIfInBounds 1 (.bool false)))
 generalize IN.update e (bF (·.setIfInBounds 1 (.bool false)))=IM at H8 HX ⊢
 have Dt:∀b o,b≠e->Gk.get? b=some o->IM.get? b=some o:=λb o hb q=>(HX.2 b hb).trans ((HY.2 b hb).trans ((HZ.2 b hb).trans q))
 refine wpAny_bind (wpAny_letGo (wpAny_pure (a0 _ rfl (wpAny_pure (hQ IM H8 ?_ ?_ ?_)))))
 ·exact fr iq IM uY λo q=>Dt it o (bA hne) (Du it o (bA hne) q)
 ·exact Dt _ _ (bA (aB (aJ he):e≠s.heap.objs.size)) HW
 ·exact λb o hb hb' q=>Dt b o hb (Du b o hb ((Dn.2 b hb').trans q))
theorem Hn{e it:Addr}{i:Int}{old:Value}{Q:Option Value->Shared->Prop}(he:IsEnum s.heap e it i old)
  (hin:∀(E:Value->Shared->Prop)(Q':Value->Shared->Prop),(∀h' x,ij it s.heap h'->(∃o,h'.get? x=some o/\o.cls=.type "StopIteration")->E (.ref x) { s with heap:=h' })->wpAny (model prog w) A.in1 (fi (.ref it)) Q' E s)
  (hQ:∀h',ij it s.heap h'->Q none { s with heap:=h' }):wpAny (model prog w) A (pyNext (.ref e)) Q E s:=by
 have hT:s.TypeIs (.ref e) "enumerate":=(a0 _ he rfl)
 refine wpAny_bind (wpAny_attempt (wpAny_callSpecial?_slot (name:=di "__next__") hT PySem.F.slot_enumerate_next (wpAny_call_entry PySem.F.slot_enumerate_next hT PySem.F.entry_enumerate_next ?_ (PySem.F.args_enumerate_next_1 _))))
 show wpAny _ _ (field (.ref e) 2>>=_) _ _ _
 refine bx (λJ q=>wpAny_field he rfl (x:=.ref it) rfl q) ?_
 refine wpAny_bind (hin _ _ λh' x he' hq=>aM hq λo ho hc=>?_)
 exact wpAny_bind (wpAny_isInstance (T:="StopIteration") (b:=true) (a0 o ho hc) isSubtype_stop (wpAny_pure (hQ _ he')))
end
open AutoSeq1 (wpAny_loadPart')
theorem Jd{α β:Type}{M:Model}{A:Around}{f:α->Sem β}{Q:β->Shared->Prop}{E:Value->Shared->Prop}{s:Shared}{b:α}(h:∀b,wpAny M A (f b) Q E s):wpAny M A (f b) Q E s:=h b
theorem t9(l:Addr)(vs:List Value) :
  Meets (Builtin.«enumerate.__new__» ⟨[.type "enumerate",.ref l],[]⟩) (λJ R s=>s.heap.get? l=some (aN vs)/\
   R (.ok (.ret (.ref (s.heap.push { cls:=.type "tuple_iterator",data:=.fields #[.ref l,.int 0 0] }).objs.size)))
    { s with heap:=(s.heap.push { cls:=.type "tuple_iterator",data:=.fields #[.ref l,.int 0 0] }).push { cls:=.type "enumerate",data:=.fields #[.none,.bool false,.ref s.heap.objs.size,rawInt 0,.none,.none] } }):=
 .of_wp λprog w A R s h=>by
  obtain⟨hp,g,d,tk,os⟩:=s; obtain⟨hl,h⟩:=h
  have hsub:=sub_enumerate
  have hL:IsTup (Shared.heap ⟨hp,g,d,tk,os⟩) l vs.toArray:=d9 hl
  wp_walk using wpAny_loadPart' hl
  refine wpAny_stack_any λst=>wpAny_pure ?_
  refine Jd λb=>?_
  cases b
  ·wp_walk using wpAny_loadPart' hl,iter_tuple hL
   exact a0 _ rfl h
  ·wp_walk using wpAny_loadPart' hl,iter_tuple hL
   exact a0 _ rfl h
section
variable{C:Cx}{X:bc}{W:En}{l:Loc}{σ:aK}{QI:(aK->Prop)->List V->aK->Prop}
theorem xX{A:Around}{E:Value->Shared->Prop}{s:Shared}{a:Addr}{vs:List Value}{Q:Value->Shared->Prop}(hl:s.heap.get? a=some (aN vs))
  (h:∀h',IsEnum h' (s.heap.objs.size+1) s.heap.objs.size 0 .none->IsTupIter h' s.heap.objs.size a 0->(∀b o,s.heap.get? b=some o->h'.get? b=some o)->Q (.ref (s.heap.objs.size+1)) { s with heap:=h' }) :
  wpAny C.M A (call (.type "enumerate") [.ref a]) Q E s:=by
 have hz:(s.heap.push { cls:=.type "tuple_iterator",data:=.fields #[.ref a,.int 0 0] }).objs.size=s.heap.objs.size+1:=fh ..
 refine callType_new PySem.F.called_enumerate rfl (PySem.F.typeCall_enumerate_1 _) (PySem.F.newCall_enumerate_1 _) (λobj=>PySem.F.args_object_init_2 obj _) PySem.F.entry_enumerate_new
  (t9 a vs) ⟨hl,?_⟩
 rw[hz]
 have he:IsEnum ((s.heap.push { cls:=.type "tuple_iterator",data:=.fields #[.ref a,.int 0 0] }).push
   { cls:=.type "enumerate",data:=.fields #[.none,.bool false,.ref s.heap.objs.size,rawInt 0,.none,.none] }) (s.heap.objs.size+1) s.heap.objs.size 0 .none:=by
  have:=ak (s.heap.push { cls:=.type "tuple_iterator",data:=.fields #[.ref a,.int 0 0] })
   (o:={ cls:=.type "enumerate",data:=.fields #[.none,.bool false,.ref s.heap.objs.size,rawInt 0,.none,.none] }) rfl
  rw[hz] at this; exact this
 exact⟨(a0 _ he rfl),h _ he (lz _ (ab _ (ak _ rfl)) rfl rfl) λb o x=>ab _ (ab _ x)⟩
theorem te{Pst:Value->Shared->Prop}{args:List Expr}{pos:Pos}{g:ac}{A:Around}{cenv:Env}{L:Addr}{m:Str->Option Value}{s:Shared}{f:V}{fv:Value}{fs:List V}{first:List Value}(hs:dP args=true)(hk:bI C f)(p:kU C W l σ g A cenv L m s)(hf:VR g f fv)(hfs:d0 g fs first)
  (h:SL C X W args l σ λds aT=>∀cj aQ vs,dA g cj->bV C cj aT aQ->VR cj f fv->d0 cj (fs++ds) vs->wpAny C.M A (call fv vs) Pst (X.P L g A.frames) aQ):wpAny C.M A (callWith pos fv first (backTo pos (starEach args cenv)) []) Pst (X.P L g A.frames) s:=by
 refine callWith_of (P:=λh=>∃k,(k=Keeper.frame∨k=Keeper.machine∨k=Keeper.boundFrame)/\Looks C.M h (keeperOf fv) k) (by rw[px hs]; rfl) (λh k=>k) ?_
 have body:wpAny C.M A (spliced (backTo pos (starEach args cenv))) (λvs aQ=>(∃k,(k=Keeper.frame∨k=Keeper.machine∨k=Keeper.boundFrame)/\Looks C.M aQ.heap (keeperOf fv) k)/\wpAny C.M A (call fv (first++vs) []) Pst (X.P L g A.frames) aQ) (X.P L g A.frames) s:=by
  refine wpAny_mono (h pos g A cenv L m s p) ?_ λJ J h=>h
  rintro vs aQ ⟨ds,cj,aA,x,b7,hvs,q⟩
  exact⟨hk cj aA aQ fv b7 (hf.ext x.v),q cj aQ (first++vs) x b7 (hf.ext x.v) ((hfs.ext x.v).append hvs)⟩
 cases args with
 | nil=>
  refine evalArgs_nil3 ⟨hk g σ s fv p.R hf,?_⟩
  have w':wpAny C.M A (pure []:Sem (List Value)) (λvs aQ=>wpAny C.M A (call fv (first++vs) []) Pst (X.P L g A.frames) aQ) (X.P L g A.frames) s:=by
   refine wpAny_mono (h pos g A cenv L m s p) ?_ λJ J h=>h
   rintro vs aQ ⟨ds,cj,aA,x,b7,hvs,q⟩
   exact q cj aQ (first++vs) x b7 (hf.ext x.v) ((hfs.ext x.v).append hvs)
  exact λΓ q hΓ=>w' Γ q hΓ Γ q hΓ
 | cons e r=>
  simp only[dP,pK,aZ] at hs
  rw[iL hs.1] at body ⊢
  exact evalArgs_plain body
end
section
variable{C:Cx}{X:bc}{W:En}{l:Loc}{σ:aK}{Q:V->aK->Prop}
theorem oE{x:Str}{pos:Pos}{v:Value}(hk:W.sc.names.lookup x=some .globalImplicit)(e:nsIn C.K mainGlobals x=some (some v))(h:Q (.val v) σ)(hd:(x==("__debug__":Str))=false:=by decide):SE C X W (.Name x pos) l σ Q:=λg A cenv L m s p=>
 SE.glob hk (mg_of p.R.kin p.R.top.g e) hd h g A cenv L m s p
theorem AO{x:Str}{pos:Pos}{v:Value}(hk:W.sc.names.lookup x=some .globalImplicit)(e:nsIn C.K mainGlobals x=some ax)(hv:bootBuiltins x=some v)(hn:x≠"__name__")(h:Q (.val v) σ)(hd:(x==("__debug__":Str))=false:=by decide):SE C X W (.Name x pos) l σ Q:=λg A cenv L m s p=>
 SE.blt hk (mg_none_of p.R.kin p.R.top.g e) ((p.R.top.builtins x hn).trans hv) hd h g A cenv L m s p
theorem Gp{ds:List V}{j:Nat}{d:V}(hx:ds[j]?=some d)(hj:j<=1000000)(h:Q d σ):SI C X W σ (.tup ds) (.int (j:Int)) Q:=by
 have h0:¬((j:Int)<0):=by exact ey.mpr (cY _)
 have hlt:j<ds.length:=(ly.mp hx).1
 refine SI.tup (j:=j) (by exact jj _) (zb hj rfl) ?_ hx h
 dsimp only[seqIndex?]
 simp only[h0,if_false]
 rw[if_pos (by simp; assumption)]
 rfl
theorem pD.no{QO:Option Int->aK->Prop}(h:QO ax σ):pD C X W ax l σ QO:=h
theorem pD.int{i:Int}{k:Nat}{pos:Pos}{QO:Option Int->aK->Prop}(h:QO (some i) σ):pD C X W (some (.Constant (.int i) k pos)) l σ QO:=SE.int (a0 i rfl h)
end
theorem kF.of{scope:Scope}{ns:List Str}(h1:scope.isCoroutine=false)(h2:scope.isGenerator=false)(h3:scope.kind=.function)(h4:((cellsFrom 0 scope.names []).map (·.1)).Nodup)
  (h5:(ns.all λx=>scope.names.lookup x==some .local||(scope.names.lookup x==some .cell&&((cellsFrom 0 scope.names []).lookup x).isSome))=true):kF scope ns:=
 ⟨h1,h2,h3,h4,λx hx=>by
  have:=bu.mp h5 x hx
  simpa only [nv,aZ,beq_iff_eq] using this⟩
section
variable{C:Cx}{X:bc}{W:En}{l:Loc}{σ:aK}{src:aK->Prop}{t:Expr}{body:List Stmt}{ifs:List Expr}{elt:Expr}
theorem SG.mono{d:V}{Q Q':Loc->aK->Prop}(h:SG C X W t l σ d Q)(k:∀l' σ',Q l' σ'->Q' l' σ'):SG C X W t l σ d Q':=
 λg A cenv L m s v p hv=>wpAny_mono (h g A cenv L m s v p hv) (λJ J ⟨l',g',σ',m',x,R,hm,hl,q⟩=>⟨l',g',σ',m',x,R,hm,hl,k _ _ q⟩) λJ J h=>h
theorem ST.mono{e:Expr}{P P':Bool->aK->Prop}(h:ST C X W e l σ P)(k:∀b σ',P b σ'->P' b σ'):ST C X W e l σ P':=
 λg A cenv L m s p=>wpAny_mono (h g A cenv L m s p) (λJ J ⟨g',σ',x,R,q⟩=>⟨g',σ',x,R,k _ _ q⟩) λJ J h=>h
theorem FX.mono{P P':Bool->aK->Prop}(k:∀b σ',P b σ'->P' b σ'):∀{ifs:List Expr}{l:Loc}{σ:aK},FX C X W ifs l σ P->FX C X W ifs l σ P'
 | [],_,_,h=>k _ _ h
 | e::r,l,σ,h=>ST.mono h λb σ' q=>by
  cases b with
  | true=>exact FX.mono k (ifs:=r) q
  | false=>exact k _ _ q
end
def I2(a b:Str):Prop:=a.cps.toList<=b.cps.toList
theorem yX{a b:Str}(h:(!PySem.Spec.ltCps b.cps.toList a.cps.toList)=true):I2 a b:=by
 rw[ltCps_eq] at h
 simp only[Bool.not_eq_true',decide_eq_false_iff_not] at h
 exact h
theorem B7{a b c:Str}(h:I2 a b)(h':I2 b c):I2 a c:=List.le_trans h h'
theorem lT:∀(r:List Str)(p:Str),risingS p r=true->(p::r).Pairwise I2
 | [],p,_=>by simp
 | x::r,p,h=>by
  rw[risingS,aZ] at h
  have hpx:=yX h.1
  have ih:=lT r x h.2
  rw[fw] at ih ⊢
  refine⟨λy hy=>?_,?_⟩
  ·rcases aE.mp hy with rfl | hy
   ·exact hpx
   ·exact B7 hpx (ih.1 y hy)
  ·rw[fw]; exact ih
theorem q5{ss:List Str}(h:sortedS ss=true):ss.Pairwise I2:=by
 cases ss with
 | nil=>exact .nil
 | cons x r=>exact lT r x h
open Classical in
theorem gU(σ:aK)(o:O):(σ.push o).get σ.nx=some o:=by rw[u0,if_pos rfl]
noncomputable def sP(fs:List (Str×V))(x:Str):Option V:=(fs.find? λf=>f.1==x).map (·.2)
noncomputable def Cd(x:Str)(d:V):List (Str×V)->List (Str×V)
 | []=>[(x,d)]
 | (y,e)::r=>if (y==x)=true then(y,d)::r else(y,e)::Cd x d r
theorem wv.find{P:Params}{g:ac}(x:Str){fs:List (Str×V)}:∀{es:List DictEntry},wv P g fs es->F7 g (sP fs x) ((es.find? (·.key.isStr x)).map (·.val))/\es.any (·.refKey)=false:=by
 induction fs with
 | nil=>exact @λJ h=>by cases h; exact⟨rfl,rfl⟩
 | cons hd0 r ih=>
  obtain⟨y,d⟩:=hd0
  intro _ z1
  refine lW z1 λt v l e a b=>?_
  obtain⟨ih1,ih2⟩:=ih b
  subst e
  have hk:(ym y t).isStr x=(y==x):=rfl
  refine⟨?_,?_⟩
  ·unfold sP at ih1 ⊢
   simp only[cU,cU]
   simp only[hk]
   cases y==x with
   | true=>exact a0 v rfl a
   | false=>exact ih1
  ·trivial
theorem wv.lookIn{P:Params}{g:ac}{x:Str}{fs:List (Str×V)}{es:List DictEntry}{n:Nat}(h:wv P g fs es):∃vo,PySem.W.lookIn x (bY es n)=some vo/\F7 g (sP fs x) vo:=by
 refine eV (h.find x) λh1 h2=>?_
 refine a0 _ ?_ h1
 unfold PySem.W.lookIn
 dsimp only
 cases he:es.find? (·.key.isStr x) with
 | some e=>rfl
 | none=>dsimp only; rw[if_neg (by rw[h2]; decide)]; rfl
theorem wv.put{P:Params}{g:ac}{x:Str}{t:Tok}{d:V}{v:Value}(hv:VR g d v){fs:List (Str×V)}:∀{es:List DictEntry},wv P g fs es->wv P g (Cd x d fs) (putL x (ci P x) (.str x t) v es):=by
 induction fs with
 | nil=>exact @λJ h=>by cases h; exact G2 t v [] rfl hv rfl
 | cons hd0 r ih=>
  obtain⟨y,e⟩:=hd0
  intro _ z1
  refine lW z1 λu w l q a b=>?_
  subst q
  have hk:(ym y u).isStr x=(y==x):=rfl
  dsimp only[Cd,putL]
  rw[hk]
  cases y==x with
  | true=>exact G2 u v l rfl hv b
  | false=>exact G2 u w _ rfl a (ih b)
theorem wv.length{P:Params}{g:ac}{fs:List (Str×V)}:∀{es:List DictEntry},wv P g fs es->es.length=fs.length:=by
 induction fs with
 | nil=>exact @λJ h=>by cases h; rfl
 | cons hd0 _ ih=>
  obtain⟨_,_⟩:=hd0
  intro _ z1
  refine lW z1 λJ J J e J b=>?_
  exact by rw[e]; simp[ih b]
theorem Cy{g:ac}{d:V}{v:Value}(h:VR g d v)(hs:∀u,d=.val u->handedIn u=true):handedIn v=true:=by
 cases d with
 | val u=>obtain rfl:v=u:=h; exact hs _ rfl
 | none=>obtain rfl:v=.none:=h; rfl
 | bool _=>obtain rfl:=h; rfl
 | int _=>obtain⟨_,rfl⟩:=h; rfl
 | str _=>obtain⟨_,rfl⟩:=h; rfl
 | tup _=>refine oq h λJ J e2r J=>?_; subst e2r; rfl
 | fl _=>refine wo h λJ J J e3r J=>?_; subst e3r; rfl
 | ref _=>obtain⟨_,rfl,_⟩:=h; rfl
 | rng _ _=>refine Jf h λJ J J J e4r J=>?_; subst e4r; rfl
 | st _ _=>refine o52 h λJ J J J J e5r J=>?_; subst e5r; rfl
 | pk _ _=>refine wo h λJ J J e3r J=>?_; subst e3r; rfl
noncomputable def Be:V->Bool
 | .val u=>handedIn u
 | _=>true
structure lw(K:Frag)(c:Addr):Prop where
 ga:findIn K (.ref c) "__getattribute__"=some (some (.builtin "object.__getattribute__"))
 noga:findIn K (.ref c) "__getattr__"=some none
 sa:findIn K (.ref c) "__setattr__"=some (some (.builtin "object.__setattr__"))
 over:plainOver K c=true
 dict:(clsIn K c).any (·.hasDict)=true
section
variable{C:Cx}{X:bc}{W:En}{l:Loc}{σ:aK}{Q:V->aK->Prop}
theorem bV.instAt{g:ac}{s:Shared}{i:Nat}{c:Addr}{fs:List (Str×V)}{v:Value}(R:bV C g σ s)(hi:σ.get i=some (.inst c fs))(hv:VR g (.ref i) v) :
  ∃x dx es n,v=.ref x/\g x=.main i/\g dx=.dict i/\s.heap.get? dx=some (bY es n)/\InstAt s.heap x (instObj c dx) c (some (bY es n))/\wv C.w.params g fs es:=by
 refine aM hv λx e1r t=>?_
 subst e1r
 obtain⟨b,t',dx,es,n,e,td,e',r⟩:=R.objs i _ hi
 obtain rfl:=R.uniq x b i t t'
 exact m46 x dx es n rfl t td e' ⟨e,rfl,rfl,e'⟩ r
theorem SM.inst{i:Nat}{c f:Addr}{fs:List (Str×V)}{name:Str}{QM:V->List V->aK->Prop}(hi:σ.get i=some (.inst c fs))(ok:lw C.K c)(hf:findIn C.K (.ref c) name=some (some (.ref f)))(ht:typeIn C.K (.ref f)=some (.type "function"))(hl:sP fs name=ax)
  (h:QM (.val (.ref f)) [.ref i] σ):SM C X W σ (.ref i) name QM:=λg A L s ov pl R hA hv=>by
 refine o46 (R.instAt hi hv) λx dx es n e4r tx tdx hdx I hfs=>?_
 subst e4r
 refine aM (hfs.lookIn (x:=name) (n:=n)) λvo hvo r=>?_
 rw[hl] at r
 subst r
 refine method_fn R.kin I ok.ga ok.noga hf ht (by show(PySem.W.lookIn name (bY es n)).map (·.isSome)=some false; rw[hvo]; rfl) ?_
 exact⟨.val (.ref f),[.ref i],g,σ,dA.refl g,R,rfl,(bX _ [] rfl hv rfl),h⟩
theorem osaH{prog:Program}{w:World}{A:Around}{K:Frag}{s:Shared}{R:Result->Shared->Prop}{x dx c:Addr}{es:List DictEntry}{n:Nat}{name:Str}{tk:Tok}{v:Value}(X:K.In s.heap)(I:InstAt s.heap x (instObj c dx) c (some (bY es n)))
  (hp:plainOver K c=true)(ht:takerIn K c name=some ax)(hh:(clsIn K c).any (·.hasDict)=true)(hl:(lookIn name (bY es n)).isSome=true)(hr:es.any (·.refKey)=false)(hz:es.length<=1000)
  (h:R (.ok (.ret .none)) { s with heap:=s.heap.update dx (ou name (ci w.params name) (.str name s.toks) v),toks:=s.toks+1 }) :
  codeAny (model prog w) A (.call (.builtin "object.__setattr__") ⟨[.ref x,.str name tk,v],[]⟩) R s:=by
 refine aM (any_some hh) λcd hc hd'=>?_
 refine osa_open X I hp ht λb=>?_
 have D:s.heap.get? dx=some (bY es n):=I.dict
 have e:ou name (ci w.params name) (.str name s.toks) v (bY es n)=bY (putL name (ci w.params name) (.str name s.toks) v es) (putN name es n):=putName_dict ..
 have D':(s.heap.update dx (ou name (ci w.params name) (.str name s.toks) v)).get? dx=some (bY (putL name (ci w.params name) (.str name s.toks) v es) (putN name es n)):=by
  rw[ay _ D (by rw[e]; rfl),e]
 have hlen:(putL name (ci w.params name) (.str name s.toks) v es).length<=1001:=by
  have:∀l:List DictEntry,(putL name (ci w.params name) (.str name s.toks) v l).length<=l.length+1:=by
   intro l
   induction l with
   | nil=>simp[putL]
   | cons a r ih=>
    dsimp only[putL]
    split
    ·simp
    ·simp; assumption
  exact Z (this es) (by exact bJ ‹_›)
 refine wpAny_bind (wpAny_pure (wpAny_bind (wpAny_bind (wpAny_loadPart I.at_ (bx (λJ=>(looks_clsIn X hc).here) ?_)))))
 rw[hd']
 refine wpAny_pure (a:=some dx) (wpAny_bind (wpAny_pure (wpAny_bind ?_)))
 refine wpAny_bind (wpAny_bind (wpAny_askSetting (wpAny_pure (wpAny_bind (wpAny_mkText (bx (λJ=>wpAny_loadPart D) ?_))))))
 dsimp only
 have cc:(!es.toArray.any (·.key.isStr name)&&es.toArray.any (·.refKey))=false:=by
  rw[<-Gg,<-Gg]
  rw[hr,J2]
 rw[aRefKeyMayBeTheName_at,cc]
 refine wpAny_updatePart D ?_
 refine wpAny_bind (wpAny_lookBehind D' (pastItsLine_dict (by rw[ao,sizeLine_eq]; exact l1 0 1001 0 16777217 hlen rfl)) ?_)
 exact wpAny_pure h
variable{QA:Loc->aK->Prop}
theorem DD{o:Expr}{name:Str}{pos:Pos}{d:V}(h:SE C X W o l σ λod aA=>∃i c fs,od=.ref i/\aA.get i=some (.inst c fs)/\lw C.K c/\takerIn C.K c name=some ax/\fs.length<=1000/\QA l (aA.set i (.inst c (Cd name d fs)))) :
  SG C X W (.Attribute o name pos) l σ d QA:=λg A cenv L m s v p hv=>by
 refine wpAny_bind (wpAny_holding (wpAny_mono (h g A cenv L m s p) ?_ λJ J h=>h))
 rintro ov aQ ⟨od,cj,aA,bH,b7,ho,i,c,fs,rfl,hi,ok,hn,hz,q⟩
 refine o46 (b7.instAt hi ho) λx dx es n e4r tx tdx hdx I hfs=>?_
 subst e4r
 have cf:=p.step bH b7
 have hI':InstAt ({ aQ with toks:=aQ.toks+1 }:Shared).heap x (instObj c dx) c (some (bY es n)):=I
 refine aM (hfs.lookIn (x:=name) (n:=n)) λvo hvo r=>?_
 have hv1:=hv.ext bH.v
 refine wpAny_bind (wpAny_standAt (wpAny_bind (wpAny_holding (set_plain b7.kin I ok.sa ?_))))
 refine osaH (K:=C.K) (s:={ aQ with toks:=aQ.toks+1 }) b7.kin hI' ok.over hn ok.dict (by rw[hvo]; rfl) (hfs.find name).2 (by rw[hfs.length]; assumption) ?_
 refine wpAny_release ?_
 have hxd:x≠dx:=λz=>by rw[z,tdx] at tx; cases tx
 have e:ou name (ci C.w.params name) (.str name (aQ.toks+1)) v (bY es n)=bY (putL name (ci C.w.params name) (.str name (aQ.toks+1)) v es) (putN name es n):=putName_dict ..
 have D':(aQ.heap.update dx (ou name (ci C.w.params name) (.str name (aQ.toks+1)) v)).get? dx=some (bY (putL name (ci C.w.params name) (.str name (aQ.toks+1)) v es) (putN name es n)):=by
  rw[ay _ hdx (by rw[e]; rfl),e]
 refine⟨l,cj,_,m,bH.l L,b7.upd (o:=.inst c (Cd name d fs)) tx (.inr tdx) (λb o hb k=>(ba _ _ (bA hb)).trans k) ⟨_,D'⟩ (ub dx _ _ ?_ tdx D' (hfs.put hv1)),cf.fm,cf.fl,q⟩
 exact(ba _ _ (bA hxd)).trans I.at_
end
noncomputable def En.dec(W:En):En:={ W with d:=W.d - 1 }
section
variable{C:Cx}{X:bc}{W:En}{σ:aK}{Q:V->aK->Prop}
theorem wu.cls{c fI:Addr}{ds:List V}(hd:0<W.d)(hm:makesIn C.K c=true)(hi:findIn C.K (.ref c) "__init__"=some (some (.ref fI)))(hf:typeIn C.K (.ref fI)=some (.type "function"))
  (h:wu C X W.dec (σ.push (.inst c [])) (.val (.ref fI)) (.ref σ.nx::ds) λd σ'=>d=.none/\Q (.ref σ.nx) σ'):wu C X W σ (.val (.ref c)) ds Q:=by
 rintro g A L s fv vs R hA hfv hv
 obtain rfl:fv=.ref c:=hfv
 obtain⟨hh,gg,d,t,os⟩:=s
 have R1:bV C g σ ⟨(hh.push emptyDict).push (instObj c hh.objs.size),gg,d,t,os⟩:=R.keeps λb o e=>ab _ (ab _ e)
 refine make_core (makes_of R.kin hm) (looks_findIn R.kin hi) (λself=>bind_fn R.kin self hf) (.inl rfl) ?_
 have hsz:(hh.push emptyDict).objs.size=hh.objs.size+1:=fh ..
 have hx:((hh.push emptyDict).push (instObj c hh.objs.size)).get? (hh.objs.size+1)=some (instObj c hh.objs.size):=by rw[<-hsz]; exact ak _ rfl
 have hdx:((hh.push emptyDict).push (instObj c hh.objs.size)).get? hh.objs.size=some (bY [] 0):=ab _ (ak _ rfl)
 have f1:g hh.objs.size=.free:=R.free_size (ad _)
 have f2:g (hh.objs.size+1)=.free:=R.free_size (cr _)
 have z1:C.H0.get? hh.objs.size=none:=R.h0_size (ad _)
 have z2:C.H0.get? (hh.objs.size+1)=none:=R.h0_size (cr _)
 have x1:dA g (g.put hh.objs.size (.dict σ.nx)):=dA.put f1 _
 have hne:hh.objs.size+1≠hh.objs.size:=bP (bU _)
 have f2':(g.put hh.objs.size (.dict σ.nx)) (hh.objs.size+1)=.free:=(a9 _ _ hne).trans f2
 have x2:=dA.put f2' (.main σ.nx)
 have td:((g.put hh.objs.size (.dict σ.nx)).put (hh.objs.size+1) (.main σ.nx)) hh.objs.size=.dict σ.nx:=(a9 _ _ (bA hne)).trans (aC ..)
 have R3:bV C ((g.put hh.objs.size (.dict σ.nx)).put (hh.objs.size+1) (.main σ.nx)) (σ.push (.inst c [])) ⟨(hh.push emptyDict).push (instObj c hh.objs.size),gg,d,t,os⟩:=
  (R1.bump.newDict (bU _) f1 z1 ⟨_,hdx⟩:bV C (g.put hh.objs.size (.dict σ.nx)) σ.bump ⟨(hh.push emptyDict).push (instObj c hh.objs.size),gg,d,t,os⟩).fill (k:=σ.nx) (o:=.inst c []) (bU _) (λb q=>by
   by_cases hb:b=hh.objs.size
   ·rw[hb,aC] at q; cases q
   ·rw[a9 _ _ hb] at q; exact eU _ (R.idx b _ q)) f2' z2 (ub _ [] 0 hx td hdx rfl) ⟨_,hx⟩
 have xx:=x1.trans x2
 have hA':Ar ((g.put hh.objs.size (.dict σ.nx)).put (hh.objs.size+1) (.main σ.nx)) W.dec.d W.dec.calm (A.under (.builtin "type.__call__" ⟨.ref c::vs,[]⟩)):=by
  have hB:=hA.ext xx
  obtain⟨d',hd'⟩:∃d',W.d=d'+1:=⟨W.d - 1,(dI hd).symm⟩
  refine⟨?_,?_,hB.calm,?_,?_⟩
  ·have:=hB.depth
   show A.depth+1+2*(W.d - 1)<_
   rw[hd'] at this ⊢
   exact FC this
  ·have:=hB.units
   show A.units+1+20*(W.d - 1)+200<_
   rw[hd'] at this ⊢
   exact DU this rfl
  ·exact hB.frames
  ·exact hB.guards
 refine codeAny_mono (h _ _ L _ (.ref fI) (.ref (hh.objs.size+1)::vs) R3 hA' rfl (bX _ _ rfl ⟨_,rfl,aC ..⟩ (hv.ext xx.v))) λr s' z=>?_
 cases r with
 | error e=>exact X.mono xx z
 | ok f=>cases f with
  | ret v=>
   obtain⟨d',g',σ',y,R',hv',rfl,q⟩:=z
   exact⟨hv',.ref σ.nx,g',σ',xx.trans y,R',(a0 _ rfl (y.at (aC ..) (by intro h; cases h))),q⟩
  | _=>exact z.elim
theorem SC.cls{c fI:Addr}{ds:List V}(hd:0<W.d)(hm:makesIn C.K c=true)(hi:findIn C.K (.ref c) "__init__"=some (some (.ref fI)))(hf:typeIn C.K (.ref fI)=some (.type "function"))
  (h:wu C X W.dec (σ.push (.inst c [])) (.val (.ref fI)) (.ref σ.nx::ds) λd σ'=>d=.none/\Q (.ref σ.nx) σ'):SC C X W σ (.val (.ref c)) ds Q:=ut (wu.cls hd hm hi hf h)
end
noncomputable def vA(l:Loc):List Str->List V->Loc
 | x::xs,d::ds=>vA (l.set x d) xs ds
 | _,_=>l
section
variable{C:Cx}{X:bc}{W:En}{l:Loc}{σ:aK}{Q:Fl->Loc->aK->Prop}
theorem SG.name{x:Str}{d:V}{g:ac}{A:Around}{cenv:Env}{L:Addr}{m:Str->Option Value}{s:Shared}{v:Value}{QA:Loc->aK->Prop}(p:kU C W l σ g A cenv L m s)(hv:VR g d v)(hk:W.sc.names.lookup x=some .local)(h:QA (l.set x d) σ) :
  wpAny C.M A (bindName cenv x v) (Lh C L g QA) (X.P L g A.frames) s:=by
 refine wpAny_bindName ?_
 refine wpAny_storeName_local ((p.E.kindOf x).trans hk) (p.E.loc▸p.R.fr L m p.fm) (λh' hn hs=>?_) (jG p.E)
 rw[p.E.loc] at hn hs
 have xl:eG L g (g.put L (.fr λy=>if y=x then some v else m y)):=eG.put g _
 have xv:=p.vL xl
 exact⟨_,_,σ,_,xl,p.R.store p.fm hn hs,aC ..,(p.fl.ext xv).set (hv.ext xv),h⟩
theorem CV{A:Around}{cenv:Env}{L:Addr}{g:ac}{QA:Loc->aK->Prop}:∀{ns:List Str}{ds:List V}{vs:List Value}{l:Loc}{σ:aK}{g':ac}{m:Str->Option Value}{s:Shared},(∀x∈ns,W.sc.names.lookup x=some .local)->ns.length=ds.length->QA (vA l ns ds) σ->kU C W l σ g' A cenv L m s->d0 g' ds vs->eG L g g'->
  wpAny C.M A (assignInOrder (ns.map λn=>bindName cenv n) vs) (Lh C L g QA) (X.P L g A.frames) s:=by
 intro ns
 induction ns with
 | nil=>
  intro ds vs l σ g' m s _ hlen h p hv x
  cases ds with
  | nil=>cases hv; exact wpAny_assignInOrder_none ⟨l,g',σ,m,x,p.R,p.fm,p.fl,h⟩
  | cons _ _=>cases hlen
 | cons n ns ih=>
  intro ds vs l σ g' m s hn hlen h p hv x
  cases ds with
  | nil=>cases hlen
  | cons d ds=>
   refine bD hv λv r e hv0 hr=>?_
   subst e
   refine wpAny_assignInOrder_more (wpAny_mono (SG.name (X:=X) (QA:=λl' σ'=>l'=l.set n d/\σ'=σ) p hv0 (hn n (.head _)) ⟨rfl,rfl⟩) ?_ λJ J h=>X.monoL x h)
   rintro _ s' ⟨l',g'',σ',m',y,R,hm,hl,rfl,rfl⟩
   exact ih (λy hy=>hn y (.tail _ hy)) (pG hlen) h (p.stepL y R hm hl) (hr.ext (p.vL y)) (x.trans y)
theorem d0.rev{g:ac}{ds:List V}{vs:List Value}(h:d0 g ds vs):d0 g ds.reverse vs.reverse:=h.reverse
theorem tT{ts:List Expr}{k:Nat}{tp pos:Pos}{e:Expr}{ns:List Str}(hc:W.calm=true)(hn:jk e=true)(hw:swappedStores [.Tuple ts k tp] e (lr W.sc)=pure (some ns))(hk:(ns.all λx=>W.sc.names.lookup x==some .local)=true)
  (h:SE C X W e l σ λd σ'=>∃ds,d=.tup ds/\ds.length=ns.length/\Q .next (vA l ns.reverse ds.reverse) σ'):S1 C X W (.Assign [.Tuple ts k tp] e pos) l σ Q:=λg A cenv L m s p J=>by
 refine Assign_Tuple_swapped (names:=ns) (wpAny_mono (h g A cenv L m s p) ?_ λJ J h=>h) (j8 hn) ((kK p.E.sc).trans hw)
 rintro v s' ⟨d,g',σ',x,R,hv,ds,rfl,hlen,q⟩
 have p':=p.step x R
 refine bD (cS R hv) λa vs e2r ho hvs=>?_
 subst e2r
 have hl:vs.toArray.size=ns.length:=by rw[ao,<-hvs.length,hlen]
 simp only[<-hl]
 refine unpackItems_tuple (p'.A.calm hc) (d9 ho) λh' he=>?_
 have R':bV C g' σ' { s' with heap:=h' }:=R.keepsT λb o hb e=>he b o (λq=>by
  subst q; rcases hb with hb | hb
  ·exact hb (R.free_size (ad s'.heap.objs.size))
  ·exact hb (R.h0_size (ad _))) e
 have hk':∀x∈ns.reverse,W.sc.names.lookup x=some .local:=λy hy=>by
  have:=bu.mp hk y (List.mem_reverse.mp hy)
  simpa using this
 refine wpAny_mono (CV (X:=X) (QA:=λl' σ''=>Q .next l' σ'') hk' (by rw[jY,jY,hlen]) q (p'.step (dA.refl g') R') hvs.rev (x.l L)) ?_ λJ J h=>h
 rintro _ s'' ⟨l',g'',σ'',m',y,R'',hm,hl',hq⟩
 exact⟨.next,l',g'',σ'',m',y,R'',hm,hl',rfl,hq⟩
end
noncomputable abbrev tB:=Nat->aK->Option V->Prop
structure uj(C:Cx)(gb:ac)(A:Around)(t:Expr)(I:Addr)(own:List Addr)(cur:tB)(St:Nat->Heap->Prop):Prop where
 frame:∀j,F1 own (St j)
 next:∀j d,HD C gb A t I own (λσ=>cur j σ (some d)) d (St j) (St (j+1))
 done:∀j,HE C gb A I own (λσ=>cur j σ none) (St j)
def ye(C:Cx)(X:bc)(W:En)(cur:tB)(t:Expr)(body:List Stmt):Nat->Nat->Loc->aK->(Fl->Loc->aK->Prop)->Prop
 | 0,_,_,_,_=>False
 | n+1,j,l,σ,Q=>∃o,cur j σ o/\match o with
  | none=>Q .next l σ
  | some d=>SG C X W t l σ d λDl aA=>SS C X W body Dl aA λf qV aT=>match f with
   | .next | .cont=>ye C X W cur t body n (j+1) qV aT Q
   | .brk=>Q .next qV aT
   | .ret v=>Q (.ret v) qV aT
section
variable{C:Cx}{X:bc}{W:En}{Q:Fl->Loc->aK->Prop}
theorem Fq{A:Around}{t:Expr}{body:List Stmt}{I:Addr}{own:List Addr}{cur:tB}{St:Nat->Heap->Prop}{cenv:Env}{outer:List Env}{L:Addr}{g₀ gb:ac}(hfr:A.frames=some (cenv::outer))(hcf:cenv.frame=some L)(hX:FT C X)
  (hI:uj C gb A t I own cur St)(hg0:∀b∈own,g₀ b=.free/\C.H0.get? b=none)(Kf:Str->Option Value)(hm0:g₀ L=.fr Kf) :
  ∀(n j:Nat)(l:Loc)(σ:aK)(g:ac)(m:Str->Option Value)(s:Shared),ye C X W cur t body n j l σ Q->kU C W l σ g A cenv L m s->(∀b∈own,g b=.free)->St j s.heap->eG L g₀ g->dN gb g->
   codeAny C.M A (.forLoop t (.ref I) body [] cenv) (λr s'=>match r with | .ok f=>CY C L g₀ Q f s' | .error e=>cameBackBy C.M A cenv (X.P L g₀ A.frames) e s') s:=by
 have hE:∀e s,X.P L g₀ A.frames e s->notedBy C.M A cenv (cameBackBy C.M A cenv (X.P L g₀ A.frames)) e s:=λe s h=>hX A cenv outer L g₀ Kf e s hfr hm0 hcf h
 intro n
 induction n with
 | zero=>intro j l σ g m s hF; exact hF.elim
 | succ n ih=>
  intro j l σ g m s hF p hown hst hx hb
  refine aM hF λo hcur hF=>?_
  cases o with
  | none=>
  refine codeAny_of_tree ?_
  refine wpAny_noted ?_
  refine wpAny_bind (wpAny_standAt (wpAny_bind (wpAny_onRaise (hI.done j g σ s _ _ hb p.R hown hcur hst λaQ b7=>?_))))
  refine wpAny_pure (a:=Fin.again _) ⟨rfl,?_⟩
  refine codeAny_of_tree ?_
  have cf:=p.step (dA.refl g) b7
  exact wpAny_bind (wpAny_onRaise (wpAny_execs_nil (wpAny_pure ⟨.next,l,g,σ,m,hx,b7,cf.fm,cf.fl,rfl,hF⟩)))
  | some d=>
  refine codeAny_of_tree ?_
  simp only[(λc e=>by subst e; exact ma rfl:∀c:Code,c=.forLoop t (.ref I) body [] cenv->A.under c=A) _ rfl]
  refine wpAny_noted ?_
  refine wpAny_bind (wpAny_standAt (wpAny_bind (wpAny_onRaise (hI.next j d g σ s _ _ hb p.R hown hcur hst λv aQ hgo=>?_))))
  have hL:L∉own:=λh=>by have:=hown L h; rw[p.fm] at this; cases this
  refine tj (λJ=>hgo _ _) λdR b8 lB oA dM hv rQ=>?_
  have nw:=p.step lB dM
  have hhold:∀b∈own,¬(dR b).solid/\C.H0.get? b=none/\∃o,b8.heap.get? b=some o:=λb hb=>⟨by rw[oA b hb]; exact λx=>x,(hg0 b hb).2,((hI.frame (j+1)).2 _ rQ b hb)⟩
  have uV:dA dR (fc dR own b8.heap):=λa ha=>mQ λh=>ha (oA a h)
  have nP:=nw.step uV (dM.holdAll hhold)
  refine wpAny_bind (wpAny_mono (hF _ A cenv L m b8 v nP (hv.ext uV.v)) ?_ λe s h=>hE e s (X.monoL hx (X.mono (lB.trans uV) h)))
  rintro _ Dj ⟨IL,BG,AL,Gi,tO,BH,Dq,Ds,q⟩
  have wy:=nP.stepL tO BH Dq Ds
  have HU:eG L g₀ BG:=(hx.trans ((lB.trans uV).l L)).trans tO
  refine wpAny_bind (wpAny_mono (q BG A cenv L Gi Dj wy ⟨⟨outer,hfr⟩,hcf⟩) ?_ λe s h=>hE e s (X.monoL HU h))
  rintro fl yu ⟨f,Gj,lD,mf,Gh,tN,uZ,AM,Dr,hfl,uX⟩
  have uq:eG L g₀ lD:=HU.trans tN
  have goOn:ye C X W cur t body n (j+1) Gj mf Q->codeAny C.M A (.forLoop t (.ref I) body [] cenv) (λr s'=>match r with | .ok f=>CY C L g₀ Q f s' | .error e=>cameBackBy C.M A cenv (X.P L g₀ A.frames) e s') yu:=by
   intro hF'
   have hL5:eE lD own L=.fr Gh:=(dc hL).trans AM
   have hheld:∀b∈own,∀o,b8.heap.get? b=some o->lD b=.held o:=λb hb o e=>by
    have hbL:b≠L:=λh=>hL (h▸hb)
    have e3:fc dR own b8.heap b=.held o:=n8 hb e
    have e4:BG b=.held o:=(tO b hbL (by rw[e3]; intro h; cases h)).trans e3
    exact(tN b hbL (by rw[e4]; intro h; cases h)).trans e4
   have IP:St (j+1) yu.heap:=(hI.frame (j+1)).1 _ _ rQ λb hb o e=>uZ.held b o (hheld b hb o e)
   have Dx:=uZ.freeAll (own:=own) λb hb=>by
    obtain⟨o,e⟩:=(hhold b hb).2.2
    rw[hheld b hb o e]; exact λx=>x
   have yt:eG L g₀ (eE lD own):=λa ha hn=>by
    have:a∉own:=λh=>hn (hg0 a h).1
    rw[dc this]; exact uq a ha hn
   have l3:=wy.stepL tN uZ AM Dr
   have xv:dN lD (eE lD own):=λa ha=>by
    refine dc λh=>?_
    obtain⟨o,e⟩:=(hhold a h).2.2
    rw[hheld a h o e] at ha; exact ha
   refine ih (j+1) Gj mf (eE lD own) Gh yu hF' ⟨Dx,⟨l3.E.sc,l3.E.kind,l3.E.loc,l3.E.glob,l3.E.blt,λy i e=>aM (l3.E.cells y i e) λa e1 t=>(a0 a e1 (xv.at t trivial)),?_,l3.E.fn⟩,⟨l3.A.depth,l3.A.units,l3.A.calm,?_,l3.A.guards⟩,hL5,l3.fl.ext xv⟩ (λb hb=>n9 hb) IP yt ((((hb.trans (lB.trans uV).v).trans (nP.vL tO)).trans (wy.vL tN)).trans xv)
   ·exact gv l3.E.frame λb m hb=>by
     refine dc λh=>?_
     obtain⟨o,e⟩:=(hhold b h).2.2
     rw[hheld b h o e] at hb; cases hb
   ·refine aM l3.A.frames λf e k=>?_
    exact⟨f,e,λenv he=>gv (k env he) λb m hb=>by
     refine dc λh=>?_
     obtain⟨o,e⟩:=(hhold b h).2.2
     rw[hheld b h o e] at hb; cases hb⟩
  cases f with
  | next=>obtain rfl:fl=.next:=hfl; exact wpAny_pure (a:=Fin.again _) ⟨rfl,goOn uX⟩
  | cont=>obtain rfl:fl=.cont:=hfl; exact wpAny_pure (a:=Fin.again _) ⟨rfl,goOn uX⟩
  | brk=>obtain rfl:fl=.brk:=hfl; exact wpAny_pure ⟨.next,Gj,lD,mf,Gh,uq,uZ,AM,Dr,rfl,uX⟩
  | ret d=>refine aM hfl λv e1r hv=>?_; subst e1r; exact wpAny_pure ⟨.ret d,Gj,lD,mf,Gh,uq,uZ,AM,Dr,(a0 v rfl hv),uX⟩
inductive JX(C:Cx)(g:ac)(A:Around)(t:Expr)(Q:tB->aK->Prop)(it:Value)(s:Shared):Prop
 | mk (I:Addr)(own:List Addr)(cur:tB)(St:Nat->Heap->Prop)(g':ac)(σ':aK)(e:it=.ref I)(x:dA g g')(R:bV C g' σ' s)(D:uj C g' A t I own cur St)(S:Bs C A I (St 0))(h:St 0 s.heap)(f:∀b∈own,g b=.free/\g' b=.free/\C.H0.get? b=.none)(q:Q cur σ')
def AD(C:Cx)(X:bc)(A:Around)(L:Addr)(g:ac)(t:Expr)(Q:tB->aK->Prop)(x:Value)(s:Shared):Prop:=wpAny C.M A (pyIter x) (JX C g A t Q) (X.P L g A.frames) s
def jp(C:Cx)(X:bc)(W:En)(t iter:Expr)(l:Loc)(σ:aK)(Q:tB->aK->Prop):Prop:=
 ∀g A cenv L m s,kU C W l σ g A cenv L m s->wpAny C.M A (eval iter cenv) (AD C X A L g t Q) (X.P L g A.frames) s
theorem Gq{t iter:Expr}{body:List Stmt}{pos:Pos}{l:Loc}{σ:aK}(hX:FT C X)(hn:gJ iter=true)(h:jp C X W t iter l σ λcur aA=>∃n,ye C X W cur t body n 0 l aA Q):S1 C X W (.For t iter body [] pos) l σ Q:=λg A cenv L m s p o=>by
 obtain⟨⟨outer,hfr⟩,hcf⟩:=o
 refine wpAny_For (wpAny_mono (h g A cenv L m s p) ?_ λJ J h=>h) λJ=>iO hn
 intro x aQ iq
 refine wpAny_mono iq ?_ λJ J h=>h
 rintro it b8 ⟨I,own,cur,St,g',σ',rfl,e,R,hI,_,hst,hown,n,q⟩
 exact Fq (g₀:=g) (gb:=g') hfr hcf hX hI (λb hb=>⟨(hown b hb).1,(hown b hb).2.2⟩) m p.fm n 0 l σ' g' m b8 q (p.step e R) (λb hb=>(hown b hb).2.1) hst (e.l L) (dN.refl g')
end
section
variable{C:Cx}{X:bc}{W:En}{l:Loc}{σ:aK}{QI:tB->aK->Prop}
noncomputable def Hr(d:V):tB:=λj σ o=>∃ds,IsL σ d ds/\ds[j]?=o
noncomputable def FD(ds:List V):tB:=λj J o=>ds[j]?=o
noncomputable def JI(n:Nat):tB:=λj J o=>o=if j<n then some (V.int (j:Int)) else ax
noncomputable def JH(as bs:List V):tB:=λj J o=>o=(match as[j]?,bs[j]? with | some a,some b=>some (V.tup [a,b]) | _,_=>ax)
noncomputable def JJ(ds:List V):tB:=λj J o=>o=(ds[j]?).map λd=>V.tup [.int (j:Int),d]
theorem EJ{gb:ac}{A:Around}{t:Expr}{I a:Addr}{d:V}(hh:A.handled=.none)(hd:VR gb d (.ref a))(h0:C.H0.get? I=none):uj C gb A t I [I] (Hr d) (λj h=>h.IsListIter I a j) where
 frame:=λj=>⟨λh h' st k=>st.at λo e=>k I (.head _) o e,λh ⟨o,e,J1⟩ b hb=>by
  cases hb with
  | head=>exact⟨o,e⟩
  | tail _ hb=>cases hb⟩
 done:=λj=>by
  rintro g σ s Q E hb R hown ⟨ds,hl,hj⟩ hst hQ
  have hle:=eJ.mp hj
  refine lW (IsL.at hl R (hd.ext hb)) λa' vs m e ho hvs=>?_
  cases e
  refine wpAny_pyNext_list_end hh hst (du ho) (by simp; rw[<-hvs.length]; assumption) λh' he=>hQ _ (nI R (hown I (.head _)) h0 λb o hbn e=>he b o hbn e)
 next:=λj d'=>by
  rintro g σ s Q E hb R hown ⟨ds,hl,hj⟩ hst hQ
  refine lW (IsL.at hl R (hd.ext hb)) λa' vs m e ho hvs=>?_
  cases e
  refine aM (hvs.get hj) λv hv rv=>?_
  refine wpAny_pyNext_list_item hst (du ho) (by simpa using hv) λh' hit hs=>hQ v _ λQ' E' hq=>?_
  refine lL (id hit) λo e hc J=>?_
  exact iN e hc rfl (hq g _ (dA.refl g) hown (nI R (hown I (.head _)) h0 λb o hbn e=>(hs.2 b hbn).trans e) rv hit)
theorem He{gb:ac}{A:Around}{t:Expr}{I a:Addr}{ds:List V}(hh:A.handled=.none)(hd:VR gb (.tup ds) (.ref a))(h0:C.H0.get? I=none):uj C gb A t I [I] (FD ds) (λj h=>IsTupIter h I a j) where
 frame:=λj=>⟨λh h' ⟨o,e,r⟩ k=>(a0 o (k I (.head _) o e) r),λh ⟨o,e,J1⟩ b hb=>by
  cases hb with
  | head=>exact⟨o,e⟩
  | tail _ hb=>cases hb⟩
 done:=λj=>by
  intro g σ s Q E hb R hown hj hst hQ
  have hle:=eJ.mp hj
  refine bD (cS R (hd.ext hb)) λa' vs e ho hvs=>?_
  cases e
  refine next_tuple_end hh hst (d9 ho) (by simp; rw[<-hvs.length]; assumption) λh' he=>hQ _ (nI R (hown I (.head _)) h0 λb o hbn e=>he b o hbn e)
 next:=λj d'=>by
  intro g σ s Q E hb R hown hj hst hQ
  refine bD (cS R (hd.ext hb)) λa' vs e ho hvs=>?_
  cases e
  refine aM (hvs.get hj) λv hv rv=>?_
  refine next_tuple_item hst (d9 ho) (by simpa using hv) λh' hit hs=>hQ v _ λQ' E' hq=>?_
  refine lL (id hit) λo e hc J=>?_
  exact iN e hc rfl (hq g _ (dA.refl g) hown (nI R (hown I (.head _)) h0 λb o hbn e=>(hs.2 b hbn).trans e) rv hit)
theorem Cs{gb:ac}{A:Around}{t:Expr}{I:Addr}{n:Nat}(hh:A.handled=.none)(h0:C.H0.get? I=none):uj C gb A t I [I] (JI n) (λj h=>IsRangeIter h I (j:Int) ((n:Int) - j) 1) where
 frame:=λj=>⟨λh h' e k=>k I (.head _) _ e,λh e b hb=>by
  cases hb with
  | head=>exact⟨_,e⟩
  | tail _ hb=>cases hb⟩
 done:=λj=>by
  intro g σ s Q E hb R hown hj hst hQ
  have hj:ax=if j<n then some (V.int (j:Int)) else ax:=hj
  exact wpAny_pyNext_range_end hh hst (Int.sub_nonpos_of_le (gG.mpr (aF λq=>by rw[if_pos q] at hj; cases hj))) λh' he=>hQ _ (nI R (hown I (.head _)) h0 λb o hbn e=>he b o hbn e)
 next:=λj d'=>by
  intro g σ s Q E hb R hown hj hst hQ
  have hj:some d'=if j<n then some (V.int (j:Int)) else ax:=hj
  have hlt:j<n:=by
   by_cases h:j<n
   ·exact h
   ·rw[if_neg h] at hj; cases hj
  rw[if_pos hlt] at hj
  cases hj
  refine wpAny_pyNext_range_item hst (Int.sub_pos_of_lt (er.mpr hlt)) λh' hit hs=>hQ _ _ λQ' E' hq=>?_
  have hit':IsRangeIter h' I ((j+1:Nat):Int) ((n:Int) - (j+1:Nat)) 1:=by
   have:(((n:Int) - j) - 1)=(n:Int) - (j+1:Nat):=Int.sub_sub _ _ _
   rw[<-this]; exact hit
  exact iN (n:="range_iterator") hit' rfl rfl (hq g _ (dA.refl g) hown (nI R (hown I (.head _)) h0 λb o hbn e=>(hs.2 b hbn).trans e) ⟨_,rfl⟩ hit')
theorem jp.any{t e:Expr}(hc:W.calm=true)(h:SE C X W e l σ λd aA=>(∃ds,IsL aA d ds/\QI (Hr d) aA)∨(∃ds,d=.tup ds/\QI (FD ds) aA)∨∃n:Nat,d=.rng 0 n/\n<2 ^ 60/\QI (JI n) aA):jp C X W t e l σ QI:=λg A cenv L m s p=>by
 refine wpAny_mono (h g A cenv L m s p) ?_ λJ J h=>h
 rintro x aQ ⟨d,cj,aA,bH,b7,hd,hq⟩
 have cf:=p.step bH b7
 have hfree:=b7.free_size (ad aQ.heap.objs.size)
 have hfree0:g aQ.heap.objs.size=.free:=by
  by_cases q:g aQ.heap.objs.size=.free
  ·exact q
  ·have:=bH _ q; rw[hfree] at this; exact absurd this.symm q
 have ow:∀b∈[aQ.heap.objs.size],g b=.free/\cj b=.free/\C.H0.get? b=.none:=λb hb=>by
  cases hb with
  | head=>exact⟨hfree0,hfree,b7.h0_size (ad _)⟩
  | tail _ hb=>cases hb
 rcases hq with ⟨ds,hl,q⟩ | ⟨ds,rfl,q⟩ | ⟨n,rfl,hn,q⟩
 ·refine lW (hl.at b7 hd) λa vs n e3r ho hvs=>?_
  cases e3r
  exact wpAny_pyIter_list (du ho) ⟨aQ.heap.objs.size,[aQ.heap.objs.size],_,_,cj,aA,rfl,bH,b7.push _,EJ (cf.A.calm hc) hd (b7.h0_size (ad _)),λJ J J st h=>wpAny_pyIter_listiter st h,(lz _ (ak _ rfl) rfl rfl),ow,q⟩
 ·have hd':=hd
  refine bD (cS b7 hd) λa vs e2r ho hvs=>?_
  subst e2r
  exact iter_tuple (d9 ho) ⟨aQ.heap.objs.size,[aQ.heap.objs.size],_,_,cj,aA,rfl,bH,b7.push _,He (cf.A.calm hc) hd' (b7.h0_size (ad _)),λJ J J st h=>wpAny_pyIter_tupleiter (i:=_) st h,(lz _ (ak _ rfl) rfl rfl),ow,q⟩
 ·refine Jf hd λa t₁ u w e4r ht=>?_
  rw[e4r]
  have hn2:(n:Int)<2 ^ 62:=qT (er.mpr hn) (by decide)
  have hsize:jZ 0 (n:Int) 1=(n:Int):=by rw[I6]; rfl
  have hsmall:uo 0 (n:Int) 1=true:=by
   unfold uo
   rw[hsize,AX (by decide) (by simp),AX (by exact jj _) hn2,AX (by simp) (by simp),if_pos (by decide),AX (by exact jj _) (by show(n:Int)+0<_; rw[Int.add_zero]; exact hn2)]
   simp
  refine wpAny_pyIter_range (t:=t₁) (u:=u) (v:=w) (b7.froz _ _ ht) hsmall ⟨aQ.heap.objs.size,[aQ.heap.objs.size],_,_,cj,aA,rfl,bH,b7.push _,Cs (n:=n) (cf.A.calm hc) (b7.h0_size (ad _)),λJ J J st h=>wpAny_pyIter_rangeiter st h,?_,ow,q⟩
  rw[hsize]
  show IsRangeIter _ _ ((0:Nat):Int) ((n:Int) - (0:Nat)) 1
  exact ak _ rfl
theorem xy{gb:ac}{A:Around}{ts:List Expr}{k:Nat}{pos:Pos}{e it a:Addr}{ds:List V}(hh:A.handled=.none)(hd:VR gb (.tup ds) (.ref a))(hne:e≠it)(he0:C.H0.get? e=none)(hi0:C.H0.get? it=none) :
  uj C gb A (.Tuple ts k pos) e [e,it] (JJ ds) (λj h=>(∃old,IsEnum h e it (j:Int) old)/\IsTupIter h it a j):=by
 have keep2:∀{g:ac}{σ:aK}{s s':Shared},bV C g σ s->(∀b∈[e,it],g b=.free)->(∀b o,b≠e->b≠it->s.heap.get? b=some o->s'.heap.get? b=some o)->s'.gens=s.gens->s'.os=s.os->bV C g σ s':=λR hown hk hg ho=>
  R.keepsT (λb o hb q=>hk b o (λz=>by
   subst z; rcases hb with hb | hb
   ·exact hb (hown _ (.head _))
   ·exact hb he0) (λz=>by
   subst z; rcases hb with hb | hb
   ·exact hb (hown _ (.tail _ (.head _)))
   ·exact hb hi0) q) hg ho
 refine⟨λj=>
  ⟨λh h' ⟨⟨old,x⟩,o,y,r⟩ q=>⟨⟨old,q e (.head _) _ x⟩,o,q it (.tail _ (.head _)) _ y,r⟩,λh ⟨⟨old,x⟩,o,y,r⟩ b hb=>by
   cases hb with
   | head=>exact⟨_,x⟩
   | tail _ hb=>cases hb with
    | head=>exact⟨_,y⟩
    | tail _ hb=>cases hb⟩,λj d'=>?_,λj=>?_⟩
 ·rintro g σ s Q E hb R hown hj ⟨⟨old,he⟩,hit⟩ hQ
  have hfree:=R.free_size (ad s.heap.objs.size)
  refine bD (cS R (hd.ext hb)) λa' vs q ho hvs=>?_
  cases q
  refine aM (aY.mp hj.symm) λd hd1 hd2=>?_
  subst hd2
  refine aM (hvs.get hd1) λv hv rv=>?_
  refine Fy (St:=λh=>IsTupIter h it a (j+1)) he hne (λh h' ⟨o,y,r⟩ q=>(a0 o (q _ y) r)) (λA' E' Q' hq=>gA hit (d9 ho) (by simpa using hv) hq) λh' heo hit' htp hk=>?_
  refine hQ _ _ λQ' E' hq=>wpAny_letOwnedTupleGo_enum heo λjy wA gN=>?_
  have R1:bV C g σ { s with heap:=jy,toks:=s.toks+1 }:=keep2 R hown (λb o hbe hbi q=>(gN.2 b hbe).trans (hk b o hbe hbi q)) rfl rfl
  have hes:e≠s.heap.objs.size:=aB (aJ he)
  have x:dA g (g.put s.heap.objs.size (.froz (aN [.int (j:Int) s.toks,v]))):=dA.put hfree _
  refine hq _ _ x (λb hb=>?_) (R1.retag (a:=s.heap.objs.size) (t:=.froz (aN [.int (j:Int) s.toks,v])) (by rw[hfree]; exact λh=>h) (show jy.get? _=_ from(gN.2 _ (bA hes)).trans htp)) (bX _ _ rfl (aC ..) ⟨_,_,rfl,⟨_,rfl⟩,_,_,rfl,rv.ext x.v,rfl⟩) ⟨⟨v,wA⟩,?_⟩
  ·rw[a9 _ _ (show b≠s.heap.objs.size from ?_)]
   ·exact hown b hb
   ·cases hb with
    | head=>exact hes
    | tail _ hb=>cases hb with
     | head=>refine aM hit λo y J=>?_; exact aB (aJ y)
     | tail _ hb=>cases hb
  ·refine aM hit' λo y r=>?_
   exact a0 o ((gN.2 it (bA hne)).trans y) r
 ·rintro g σ s Q E hb R hown hj ⟨⟨old,he⟩,hit⟩ hQ
  have hj:ax=(ds[j]?).map λd=>V.tup [.int (j:Int),d]:=hj
  refine bD (cS R (hd.ext hb)) λa' vs q ho hvs=>?_
  have hle:ds.length<=j:=by
   cases q:ds[j]? with
   | none=>exact eJ.mp q
   | some d=>rw[q] at hj; cases hj
  cases q
  refine Hn he (λE' Q' hE=>jH (by exact hh) hit (d9 ho) (by simp; rw[<-hvs.length]; assumption) hE) λh' hx=>hQ _ (keep2 R hown (λb o J hb q=>hx b o hb q) rfl rfl)
theorem u9{ts:List Expr}{k:Nat}{tp np pos:Pos}{x:Str}{e:Expr}(hc:W.calm=true)(hs:dW e=true)(hx:SE C X W (.Name x np) l σ λf aA=>f=.val (.type "enumerate")/\SE C X W e l aA λd aT=>∃ds,d=.tup ds/\QI (JJ ds) aT) :
  jp C X W (.Tuple ts k tp) (.Call (.Name x np) [e] [] pos) l σ QI:=λg A cenv L m s p=>by
 refine wpAny_Call_ofName (wpAny_mono (hx g A cenv L m s p) ?_ λJ J h=>h)
 rintro fv aQ ⟨f,cj,aA,jx,b7,hf,rfl,q⟩
 have cf:=p.step jx b7
 have hf':fv=.type "enumerate":=hf
 subst hf'
 refine wpAny_mono (te (fs:=[]) (first:=[]) (f:=.val (.type "enumerate")) (by simp[dP,hs]) bI.type cf rfl rfl (SL.cons hs (SE.mono q λd aT hq=>SL.nil ?_)) (Pst:=AD C X A L g (.Tuple ts k tp) QI)) (λJ J h=>h) λJ J h=>X.mono jx h
 obtain⟨ds,rfl,hq⟩:=hq
 rintro dR b8 vs lB dM - ⟨v,_,rfl,hv,rfl⟩
 have hv':=hv
 refine bD (cS dM hv) λa us e2r ho hus=>?_
 have f1:=dM.free_size (ad b8.heap.objs.size)
 subst e2r
 have nw:=cf.step lB dM
 refine xX ho λh' he hit hk=>?_
 have k0:bV C dR aT { b8 with heap:=h' }:=dM.keeps hk
 have f2:=dM.free_size (cr b8.heap.objs.size)
 have h1:=dM.h0_size (ad b8.heap.objs.size)
 have h2:=dM.h0_size (cr b8.heap.objs.size)
 have xx:=jx.trans lB
 have back:∀b,dR b=.free->g b=.free:=λb hb=>by
  by_cases q:g b=.free
  ·exact q
  ·have:=xx b q; rw[hb] at this; exact absurd this.symm q
 refine wpAny_pyIter_enum he ⟨_,[b8.heap.objs.size+1,b8.heap.objs.size],_,_,dR,aT,rfl,xx,k0,xy (nw.A.calm hc) hv' (bP (bU _)) h2 h1,λs' Q' E' ⟨⟨old,st⟩,J1⟩ hq=>wpAny_pyIter_enum st hq,⟨⟨_,he⟩,hit⟩,?_,hq⟩
 intro b hb
 cases hb with
 | head=>exact⟨back _ f2,f2,h2⟩
 | tail _ hb=>cases hb with
  | head=>exact⟨back _ f1,f1,h1⟩
  | tail _ hb=>cases hb
end
noncomputable abbrev uQ:=List V->Loc->aK->Prop
noncomputable abbrev kG:=List V->Loc->aK->uQ->Prop
def jS(C:Cx)(W:En)(cur:tB)(t:Expr)(ifs:List Expr)(B:kG):Nat->Nat->List V->Loc->aK->uQ->Prop
 | 0,_,_,_,_,_=>False
 | n+1,j,acc,l,σ,Q=>∃o,cur j σ o/\match o with
  | none=>Q acc l σ
  | some d=>SG C .none W t l σ d λDl aA=>FX C .none W ifs Dl aA λok aT=>
   if ok=true then B acc Dl aT (λacc' l' σ'=>jS C W cur t ifs B n (j+1) acc' l' σ' Q) else jS C W cur t ifs B n (j+1) acc Dl aT Q
noncomputable def tD(C:Cx)(W:En)(elt:Expr):kG:=λacc l σ Q=>SE C .none W elt l σ λy σ'=>acc.length<1000000/\Q (acc++[y]) l σ'
noncomputable def F3(C:Cx)(W:En)(t iter:Expr)(ifs:List Expr)(B:kG):kG:=λacc l σ Q=>jp C .none W t iter l σ λcur σ'=>∃n,jS C W cur t ifs B n 0 acc l σ' Q
def Bx(C:Cx)(gb:ac)(L D:Addr)(Q:uQ)(s':Shared):Prop:=
 ∃acc ys n g' l' σ' m',qm L D gb g'/\dN gb g'/\bV C g' σ' s'/\g' L=.fr m'/\jU g' l' m'/\g' D=.held (aR ys n)/\d0 g' acc ys/\Q acc l' σ'
def BodyOk(C:Cx)(W:En)(A:Around)(cenv:Env)(L D:Addr)(B:kG)(body:Sem Unit):Prop:=
 ∀acc ys n l σ Q g m s,B acc l σ Q->kU C W l σ g A cenv L m s->g D=.held (aR ys n)->d0 g acc ys->wpAny C.M A body (λJ s'=>Bx C g L D Q s') (λJ J=>False) s
theorem kU.step2{C:Cx}{W:En}{l l':Loc}{σ σ':aK}{g g':ac}{A:Around}{cenv:Env}{L D:Addr}{m m':Str->Option Value}{s s':Shared}{o:Obj}(p:kU C W l σ g A cenv L m s)(hD:g D=.held o)(x:qm L D g g')(xv:dN g g')(R:bV C g' σ' s')(hm:g' L=.fr m')(hl:jU g' l' m'):kU C W l' σ' g' A cenv L m' s':=by
 have fr:∀env,gD g env->gD g' env:=λenv ⟨k,L',m₁,e,t⟩=>by
  by_cases q:L'=L
  ·exact⟨k,L',m',e,q▸hm⟩
  ·exact⟨k,L',m₁,e,(x L' q (λe=>by rw[e,hD] at t; cases t) (by rw[t]; intro h; cases h)).trans t⟩
 exact⟨R,⟨p.E.sc,p.E.kind,p.E.loc,p.E.glob,p.E.blt,λy i e=>aM (p.E.cells y i e) λa e1 t=>(a0 a e1 (xv.at t trivial)),fr _ p.E.frame,p.E.fn⟩,
  ⟨p.A.depth,p.A.units,p.A.calm,aM p.A.frames λf e k=>(a0 f e (λenv he=>fr env (k env he))),p.A.guards⟩,hm,hl⟩
section
variable{C:Cx}{X:bc}{W:En}
theorem Ky{α:Type}{A:Around}{t:Sem α}{Q:α->Shared->Prop}{E:Value->Shared->Prop}{L:Addr}{g:ac}{f:Option (List Env)}{s:Shared}(h:wpAny C.M A t Q (bc.none.P L g f) s):wpAny C.M A t Q E s:=wpAny_mono h (λJ J h=>h) λJ J h=>h.elim
theorem BodyOk.emit{A:Around}{cenv:Env}{L D:Addr}{elt:Expr}(hDL:D≠L):BodyOk C W A cenv L D (tD C W elt) (do let _ <-call (.builtin "list.append") [.ref D,<-eval elt cenv]):=λacc ys n l σ Q g m s h p hD hacc=>by
 refine wpAny_bind (Ky (L:=L) (g:=g) (f:=A.frames) (wpAny_mono (h g A cenv L m s p) ?_ λJ J h=>h))
 rintro y aQ ⟨dy,cj,aA,jx,b7,hy,hz,IJ⟩
 have hD1:cj D=.held (aR ys n):=jx.at hD (by intro h; cases h)
 have hacc1:=hacc.ext jx.v
 refine wpAny_bind (wpAny_list_append_plain (items:=ys.toArray) (hsz:=by rw[ao,<-hacc1.length,sizeLine_eq]; exact l1 1 1000000 0 16777216 hz rfl) ⟨n,b7.held _ _ hD1⟩ λjy Kk gN=>?_)
 refine ik Kk λIK eN=>?_
 have Kp:jy.get? D=some (aR (ys++[y]) IK):=by rw[eN]; simp
 have dM:=b7.reheld hD1 Kp gN
 have xv:dN cj (cj.put D (.held (aR (ys++[y]) IK))):=(eG.put cj _).v (by rw[hD1]; exact λh=>h)
 have cf:=p.step jx b7
 refine wpAny_pure ⟨acc++[dy],ys++[y],IK,_,l,aA,m,λc h1 h2 hc=>(a9 _ _ h2).trans (jx c hc),jx.v.trans xv,dM,(a9 _ _ (bA hDL)).trans cf.fm,cf.fl.ext xv,aC ..,(hacc1.append (show d0 cj [dy] [y] from(bX y [] rfl hy rfl))).ext xv,IJ⟩
theorem uO{A:Around}{t elt:Expr}{ifs:List Expr}{gens:List Comprehension}{scope:Scope}{pos ip:Pos}{dp:Nat}{I D:Addr}{own:List Addr}{cur:tB}{St:Nat->Heap->Prop}{cenv:Env}{L:Addr}{g₀ gb:ac}{B:kG}{body:Sem Unit}{Q:uQ}
  (hturn:compTurn (.ListComp elt gens scope pos) dp (.ref I) (.ref D) cenv=(do
   standAt ip
   match <-pyNext (.ref I) with
   | none=>pure (.done .next)
   | some v=>
    letOwnedTupleGo t (.ref I) v
    assign t cenv v
    let mut ok:=true
    for c in ifs do
     if ok then ok <-isTrue c cenv (eval c cenv)
    if ok then body
    again (.compLoop (.ListComp elt gens scope pos) dp (.ref I) (.ref D) cenv)))
  (hB:BodyOk C W A cenv L D B body)(hI:uj C gb A t I own cur St)
  (hg0:∀b∈own,g₀ b=.free/\C.H0.get? b=none)(hDL:D≠L)(hDo:D∉own) :
  ∀(fu j:Nat)(acc:List V)(ys:List Value)(n:Nat)(l:Loc)(σ:aK)(g:ac)(m:Str->Option Value)(s:Shared),jS C W cur t ifs B fu j acc l σ Q->kU C W l σ g A cenv L m s->(∀b∈own,g b=.free)->St j s.heap->qm L D g₀ g->dN g₀ g->dN gb g->
   g D=.held (aR ys n)->d0 g acc ys->
   codeAny C.M A (.compLoop (.ListComp elt gens scope pos) dp (.ref I) (.ref D) cenv) (λr s'=>match r with | .ok _=>Bx C g₀ L D Q s' | .error _=>False) s:=by
 have hunder:A.under (.compLoop (.ListComp elt gens scope pos) dp (.ref I) (.ref D) cenv)=A:=ma rfl
 intro fu
 induction fu with
 | zero=>intro j acc ys n l σ g m s hF; exact hF.elim
 | succ fu ih=>
  intro j acc ys n l σ g m s hF p hown hst hx hx0 hb hD hacc
  refine aM hF λo hcur hF=>?_
  cases o with
  | none=>
  refine codeAny_of_tree ?_
  show wpAny _ A ((compTurn (.ListComp elt gens scope pos) dp (.ref I) (.ref D) cenv).onRaise (λx=>do noteFrame x cenv; theTreesLotGoes x)) _ _ s
  refine wpAny_noted ?_
  rw[hturn]
  refine wpAny_bind (wpAny_standAt (tj (λJ=>hI.done j g σ s _ _ hb p.R hown hcur hst) λaQ b7=>?_))
  have cf:=p.step (dA.refl g) b7
  exact wpAny_pure ⟨acc,ys,n,g,l,σ,m,hx,hx0,b7,cf.fm,cf.fl,hD,hacc,hF⟩
  | some d=>
  refine codeAny_of_tree ?_
  show wpAny _ A ((compTurn (.ListComp elt gens scope pos) dp (.ref I) (.ref D) cenv).onRaise (λx=>do noteFrame x cenv; theTreesLotGoes x)) _ _ s
  refine wpAny_noted ?_
  rw[hturn]
  refine wpAny_bind (wpAny_standAt (wpAny_bind (hI.next j d g σ s _ _ hb p.R hown hcur hst λv aQ hgo=>?_)))
  refine tj (λJ=>hgo _ _) λdR b8 lB oA dM hv rQ=>?_
  have nw:=p.step lB dM
  have hL:L∉own:=λh=>by have:=hown L h; rw[p.fm] at this; cases this
  have hhold:∀b∈own,¬(dR b).solid/\C.H0.get? b=none/\∃o,b8.heap.get? b=some o:=λb hb=>⟨by rw[oA b hb]; exact λx=>x,(hg0 b hb).2,((hI.frame (j+1)).2 _ rQ b hb)⟩
  have k0:=dM.holdAll hhold
  have uV:dA dR (fc dR own b8.heap):=λa ha=>mQ λh=>ha (oA a h)
  have nP:=nw.step uV k0
  have Dh:dA g (fc dR own b8.heap):=lB.trans uV
  refine wpAny_bind (Ky (wpAny_mono (hF _ A cenv L m b8 v nP (hv.ext uV.v)) ?_ λJ J h=>h))
  rintro _ Dj ⟨IL,BG,AL,Gi,tO,BH,Dq,Ds,q⟩
  have wy:=nP.stepL tO BH Dq Ds
  refine wpAny_bind (Ky (wpAny_mono (FX.run (g:=BG) q wy) ?_ λJ J h=>h))
  rintro ok yu ⟨lD,mf,tN,uZ,uX⟩
  have l3:=wy.step tN uZ
  have hheld:∀b∈own,∀o,b8.heap.get? b=some o->lD b=.held o:=λb hb o e=>by
   have hbL:b≠L:=λh=>hL (h▸hb)
   have e3:fc dR own b8.heap b=.held o:=n8 hb e
   exact tN.at ((tO b hbL (by rw[e3]; intro h; cases h)).trans e3) (by intro h; cases h)
  have hD3:fc dR own b8.heap D=.held (aR ys n):=Dh.at hD (by intro h; cases h)
  have hD5:lD D=.held (aR ys n):=tN.at ((tO D hDL (by rw[hD3]; intro h; cases h)).trans hD3) (by intro h; cases h)
  have hv5:dN g lD:=(Dh.v.trans (nP.vL tO)).trans tN.v
  have uq:qm L D g₀ lD:=(hx.trans Dh.two).trans (tO.two.trans tN.two)
  have goOn:∀(acc':List V)(ys':List Value)(n':Nat)(l':Loc)(σ':aK)(g':ac)(m':Str->Option Value)(s':Shared),jS C W cur t ifs B fu (j+1) acc' l' σ' Q->kU C W l' σ' g' A cenv L m' s'->(∀b∈own,∀o,b8.heap.get? b=some o->g' b=.held o)->qm L D g₀ g'->dN g₀ g'->dN gb g'->g' D=.held (aR ys' n')->d0 g' acc' ys'->
    codeAny C.M A (.compLoop (.ListComp elt gens scope pos) dp (.ref I) (.ref D) cenv) (λr s'=>match r with | .ok _=>Bx C g₀ L D Q s' | .error _=>False) s':=by
   intro acc' ys' n' l' σ' g' m' s' hF' p' hheld' hx' hx0' hb' hD' hacc'
   have hst':St (j+1) s'.heap:=(hI.frame (j+1)).1 _ _ rQ λb hb o e=>p'.R.held b o (hheld' b hb o e)
   have Dx:=p'.R.freeAll (own:=own) λb hb=>by
    obtain⟨o,e⟩:=(hhold b hb).2.2
    rw[hheld' b hb o e]; exact λx=>x
   have hL5:eE g' own L=.fr m':=(dc hL).trans p'.fm
   have yt:qm L D g₀ (eE g' own):=λa ha ha' hn=>by
    have:a∉own:=λh=>hn (hg0 a h).1
    rw[dc this]; exact hx' a ha ha' hn
   have xv:dN g' (eE g' own):=λa ha=>by
    refine dc λh=>?_
    obtain⟨o,e⟩:=(hhold a h).2.2
    rw[hheld' a h o e] at ha; exact ha
   refine ih (j+1) acc' ys' n' l' σ' (eE g' own) m' s' hF' ⟨Dx,⟨p'.E.sc,p'.E.kind,p'.E.loc,p'.E.glob,p'.E.blt,λy i e=>aM (p'.E.cells y i e) λa e1 t=>(a0 a e1 (xv.at t trivial)),?_,p'.E.fn⟩,⟨p'.A.depth,p'.A.units,p'.A.calm,?_,p'.A.guards⟩,hL5,p'.fl.ext xv⟩ (λb hb=>n9 hb) hst' yt (hx0'.trans xv) (hb'.trans xv) ((dc hDo).trans hD') (hacc'.ext xv)
   ·exact gv p'.E.frame λb m hb=>by
     refine dc λh=>?_
     obtain⟨o,e⟩:=(hhold b h).2.2
     rw[hheld' b h o e] at hb; cases hb
   ·refine aM p'.A.frames λf e k=>?_
    exact⟨f,e,λenv he=>gv (k env he) λb m hb=>by
     refine dc λh=>?_
     obtain⟨o,e⟩:=(hhold b h).2.2
     rw[hheld' b h o e] at hb; cases hb⟩
  have hx05:dN g₀ lD:=hx0.trans hv5
  cases ok with
  | false=>exact wpAny_pure (a:=Fin.again _) ⟨rfl,goOn acc ys n IL mf lD Gi yu uX l3 hheld uq hx05 (hb.trans hv5) hD5 (hacc.ext hv5)⟩
  | true=>
   refine wpAny_bind (wpAny_mono (hB acc ys n IL mf _ lD Gi yu uX l3 hD5 (hacc.ext hv5)) ?_ λJ J h=>h.elim)
   intro _ s₆ hq
   refine o78 hq λIQ Kd n₆ g₆ l₆ Kc m₆ yt Di Dx Kh Kj Kn Gl q₆=>?_
   refine wpAny_pure (a:=Fin.again _) ⟨rfl,goOn IQ Kd n₆ l₆ Kc g₆ m₆ s₆ q₆ (l3.step2 hD5 yt Di Dx Kh Kj) ?_ (uq.trans yt) (hx05.trans Di) ((hb.trans hv5).trans Di) Kn Gl⟩
   intro b hb o e
   have h5:=hheld b hb o e
   exact(yt b (λh=>hL (h▸hb)) (λh=>hDo (h▸hb)) (by rw[h5]; intro h; cases h)).trans h5
theorem iZ{A:Around}{R:Result->Shared->Prop}{s:Shared}{elt:Expr}{gens:List Comprehension}{dp:Nat}{gc:Comprehension} {scope pos it acc env}(hg:gens[dp]?=some gc)(ha:gc.is_async=0)
  (h0:codeAny C.M A (.compLoop (.ListComp elt gens scope pos) dp it acc env) R s)
  (h:wpAny C.M A (pyIter it) (λit' s'=>codeAny C.M A (.compLoop (.ListComp elt gens scope pos) dp it' acc env) R s')
   (notedBy C.M A env λx s'=>R (.error x) s') s) :
  codeAny C.M A (.compStart (.ListComp elt gens scope pos) dp it acc env) R s:=by
 have hunder:A.under (.compStart (.ListComp elt gens scope pos) dp it acc env)=A:=ma rfl
 refine codeAny_of_tree ?_
 rw[hunder]
 show wpAny _ _ ((compStart (.ListComp elt gens scope pos) dp it acc env).onRaise (λx=>do noteFrame x env; standAt theWindowsPlace)) _ _ s
 refine wpAny_notedAt ?_
 have e:compStart (.ListComp elt gens scope pos) dp it acc env=(do
   if (<-ask).params.followText "comprehension-iter-twice" then return <-again (.compLoop (.ListComp elt gens scope pos) dp it acc env)
   rule "comprehension.iter-twice"
   standAt gc.iter.pos
   again (.compLoop (.ListComp elt gens scope pos) dp (<-pyIter it) acc env)):=by
  show(if (Option.elim gens[dp]? false (·.is_async != 0))=true then _ else _)=_
  rw[hg]
  show(if (gc.is_async != 0)=true then _ else _)=_
  rw[ha]
  show(ask>>=_)=_
  have:(clausesOf (.ListComp elt gens scope pos))[dp]?=some gc:=hg
  rw[this]
 rw[e]
 refine wpAny_bind (wpAny_askSetting (wpAny_ite ?_))
 split
 ·exact wpAny_bind (wpAny_pure (wpAny_pure (AK rfl h0)))
 ·exact wpAny_bind (wpAny_rule (wpAny_bind (wpAny_standAt (wpAny_bind (wpAny_mono h (λit' s' h'=>wpAny_pure (AK rfl h')) λJ J x=>x)))))
theorem BodyOk.for{A:Around}{t iter elt:Expr}{ifs:List Expr}{gens:List Comprehension}{scope:Scope}{pos:Pos}{dp:Nat}{D:Addr}{cenv:Env}{L:Addr}{B:kG}{body:Sem Unit}
  (hturn:∀I,compTurn (.ListComp elt gens scope pos) dp (.ref I) (.ref D) cenv=(do
   standAt iter.pos
   match <-pyNext (.ref I) with
   | none=>pure (.done .next)
   | some v=>
    letOwnedTupleGo t (.ref I) v
    assign t cenv v
    let mut ok:=true
    for c in ifs do
     if ok then ok <-isTrue c cenv (eval c cenv)
    if ok then body
    again (.compLoop (.ListComp elt gens scope pos) dp (.ref I) (.ref D) cenv)))
  (hg:gens[dp]?=some ⟨t,iter,ifs,0⟩)(hn:gJ iter=true)(hDL:D≠L)(hB:BodyOk C W A cenv L D B body) :
  BodyOk C W A cenv L D (F3 C W t iter ifs B) (do
   let x <-eval iter cenv
   standAt iter.pos
   let x <-foldedSetIterable iter cenv x
   let _ <-runOwn (.compStart (.ListComp elt gens scope pos) dp (<-holding [x] (pyIter x)) (.ref D) cenv) cenv):=λacc ys n l σ Q g m s h p hD hacc=>by
 refine wpAny_bind (Ky (L:=L) (g:=g) (f:=A.frames) (wpAny_mono (h g A cenv L m s p) ?_ λJ J h=>h))
 intro x aQ iq
 refine wpAny_bind (wpAny_standAt (wpAny_bind ?_))
 rw[iO hn]
 refine wpAny_pure (wpAny_bind (wpAny_holding (Ky (wpAny_mono iq ?_ λJ J h=>h))))
 rintro it b8 ⟨I,own,cur,St,g',σ',rfl,e,R,hI,hself,hst,hown,fu,q⟩
 have p':=p.step e R
 have hD':g' D=.held (aR ys n):=e.at hD (by intro h; cases h)
 have hDo:D∉own:=λh=>by have:=(hown D h).1; rw[hD] at this; cases this
 have loop:codeAny C.M A (.compLoop (.ListComp elt gens scope pos) dp (.ref I) (.ref D) cenv) (λr s'=>match r with | .ok _=>Bx C g L D Q s' | .error _=>False) b8:=
  uO (hturn I) hB hI (λb hb=>⟨(hown b hb).1,(hown b hb).2.2⟩) hDL hDo fu 0 acc ys n l σ' g' m b8 q p' (λb hb=>(hown b hb).2.1) hst e.two e.v (dN.refl _) hD' (hacc.ext e.v)
 refine wpAny_bind (wpAny_runOwn (codeAny_mono (iZ hg rfl loop (hself _ _ _ hst loop)) ?_))
 intro r s' h
 cases r with
 | ok f=>exact wpAny_pure h
 | error _=>exact h.elim
def oj(e:Expr)(dp:Nat)(t:Expr)(ip:Pos)(ifs:List Expr)(I D:Addr)(cenv:Env)(body:Sem Unit):Prop:=
 compTurn e dp (.ref I) (.ref D) cenv=(do
   standAt ip
   match <-pyNext (.ref I) with
   | none=>pure (.done .next)
   | some v=>
    letOwnedTupleGo t (.ref I) v
    assign t cenv v
    let mut ok:=true
    for c in ifs do
     if ok then ok <-isTrue c cenv (eval c cenv)
    if ok then body
    again (.compLoop e dp (.ref I) (.ref D) cenv))
theorem s7{A:Around}{t elt iter:Expr}{ifs:List Expr}{gens:List Comprehension}{B:kG}{body:Addr->Env->Sem Unit}{scope:Scope}{pos:Pos}{cl:List (Str×Addr)}{I:Addr}{own:List Addr}{cur:tB}{env:Env}{l:Loc}{L:Addr}{σ:aK}{g:ac}{m:Str->Option Value}{s:Shared}{St:Nat->Heap->Prop}{fu:Nat}{Q:List V->aK->Prop}{E:Value->Shared->Prop}{RR:Value->Addr->Result->Shared->Prop}
  (hg:gens[0]?=some ⟨t,iter,ifs,0⟩)(hturn:∀I D cenv,oj (.ListComp elt gens scope pos) 0 t iter.pos ifs I D cenv (body D cenv))(hB:∀D cenv L,D≠L->BodyOk C (ex scope W) A cenv L D B (body D cenv))
  (hcell:∀y∈scope.names,y.2≠.cell)(hkind:scope.kind=.function)(hcl:∀x i,(f6 W.cells scope.names []).lookup x=some i->∃a,cl.lookup x=some a/\g a=.main i)
  (p:kU C W l σ g A env L m s)(hI:uj C g A t I own cur St)(hself:Bs C A I (St 0))(hst:St 0 s.heap)(hown:∀b∈own,g b=.free/\C.H0.get? b=none)
  (hF:jS C (ex scope W) cur t ifs B fu 0 [] (λJ=>ax) σ λacc J σ=>Q acc σ)
  (hRR:∀D C' f s',g D=.free->g C'=.free->D≠C'->C.H0.get? D=none->C.H0.get? C'=none->CompPost C g C' D Q s'->RR (.ref D) C' (.ok f) s') :
  wpAny C.M A (newList []) (λacc uW=>wpAny C.M A (newFunctionEnv scope env.globals cl [] env.qual none .none (some env)) (λcenv Dj=>
   codeAny C.M A (.compStart (.ListComp elt gens scope pos) 0 (.ref I) acc { cenv with scope:=relabel scope env }) (RR acc cenv.locals) Dj) E uW) E s:=by
 refine wpAny_newObj_type (wpAny_newFunctionEnv hcell (by intro y hy; simp at hy) (λiq Dp yw=>?_) hkind)
 have hDl:(s.heap.push (aR [] 0)).get? s.heap.objs.size=some (aR [] 0):=ak _ rfl
 generalize hH2:s.heap.push { cls:=.type "list",dict:=none,data:=.seq ([]:List Value).toArray }=H2 at Dp yw ⊢
 have hC:H2.objs.size=s.heap.objs.size+1:=by rw[<-hH2,fh]
 have hDC:s.heap.objs.size≠H2.objs.size:=by exact aB (am hC.symm)
 have hDfree:g s.heap.objs.size=.free:=p.R.free_size (ad _)
 have hCfree:g H2.objs.size=.free:=p.R.free_size (Z (cr _) (am hC.symm))
 have hD0:C.H0.get? s.heap.objs.size=none:=p.R.h0_size (ad _)
 have hC0:C.H0.get? H2.objs.size=none:=p.R.h0_size (Z (cr _) (am hC.symm))
 have old:∀b o,s.heap.get? b=some o->iq.get? b=some o:=λb o e=>yw.extBut b o (aB (by rw[hC]; exact cx (aJ e))) (ab _ (hH2▸ab _ e))
 have hD1:iq.get? s.heap.objs.size=some (aR [] 0):=yw.extBut _ _ hDC (ab _ (hH2▸hDl))
 have R1:bV C g σ { s with heap:=iq,toks:=s.toks+([]:List (Str×Value)).length }:=p.R.keeps old
 have R2:=R1.retag (a:=H2.objs.size) (t:=.fr λx=>([]:List (Str×Value)).reverse.lookup x) (by rw[hCfree]; exact λh=>h) ⟨Dp,hC0⟩
 have x2:dA g (g.put H2.objs.size (.fr λx=>([]:List (Str×Value)).reverse.lookup x)):=dA.put hCfree _
 have hD2:(g.put H2.objs.size (.fr λx=>([]:List (Str×Value)).reverse.lookup x)) s.heap.objs.size=.free:=(a9 _ _ hDC).trans hDfree
 have R3:=R2.retag (a:=s.heap.objs.size) (t:=.held (aR [] 0)) (by rw[hD2]; exact λh=>h) ⟨hD1,hD0⟩
 have x3:=x2.trans (dA.put hD2 (.held (aR [] 0)))
 have hfm:((g.put H2.objs.size (.fr λx=>([]:List (Str×Value)).reverse.lookup x)).put s.heap.objs.size (.held (aR [] 0))) H2.objs.size=.fr λx=>([]:List (Str×Value)).reverse.lookup x:=(a9 _ _ (bA hDC)).trans (aC ..)
 have hlt:∀b∈own,b<s.heap.objs.size:=λb hb=>ik ((hI.frame 0).2 _ hst b hb) λo e=>aJ e
 have hDo:s.heap.objs.size∉own:=λh=>eU _ (hlt _ h)
 have hCo:H2.objs.size∉own:=λh=>eU _ (cI (hC▸bU _) (hlt _ h))
 have uY:St 0 iq:=(hI.frame 0).1 _ _ hst λb J o e=>old b o e
 have p3:kU C (ex scope W) (λJ=>none) σ ((g.put H2.objs.size (.fr λx=>([]:List (Str×Value)).reverse.lookup x)).put s.heap.objs.size (.held (aR [] 0))) A (compEnvC scope cl H2.objs.size env) H2.objs.size (λx=>([]:List (Str×Value)).reverse.lookup x) { s with heap:=iq,toks:=s.toks+([]:List (Str×Value)).length }:=by
  have pA:=p.A.ext x3
  have pE:=p.E.ext x3
  refine⟨R3,⟨y2 p.E.sc,hkind,rfl,p.E.glob,p.E.blt,?_,?_,λJ J h=>by cases h⟩,⟨pA.depth,pA.units,pA.calm,pA.frames,pA.guards⟩,hfm,λJ=>rfl⟩
  ·intro x i h
   refine aM (hcl x i h) λa e t=>?_
   exact a0 a e (x3.at t (by intro h; cases h))
  ·obtain⟨k,L',m',e,t⟩:=pE.frame
   exact⟨by show scope.kind≠_; rw[hkind]; decide,L',m',e,t⟩
 have loop:codeAny C.M A (.compLoop (.ListComp elt gens scope pos) 0 (.ref I) (.ref s.heap.objs.size) (compEnvC scope cl H2.objs.size env)) (RR (.ref s.heap.objs.size) H2.objs.size) { s with heap:=iq,toks:=s.toks+([]:List (Str×Value)).length }:=by
  refine codeAny_mono (uO (hturn _ _ _) (hB _ _ _ hDC) hI (g₀:=(g.put H2.objs.size (.fr λx=>([]:List (Str×Value)).reverse.lookup x)).put s.heap.objs.size (.held (aR [] 0))) (gb:=g) (Q:=λacc J σ=>Q acc σ) (λb hb=>⟨?_,(hown b hb).2⟩) hDC hDo fu 0 [] [] 0 _ σ _ _ _ hF p3 (λb hb=>?_) uY (λJ J J J=>rfl) (dN.refl _) x3.v (aC ..) rfl) ?_
  ·rw[a9 _ _ (show b≠s.heap.objs.size from λe=>hDo (e▸hb)),a9 _ _ (show b≠H2.objs.size from λe=>hCo (e▸hb))]; exact(hown b hb).1
  ·rw[a9 _ _ (show b≠s.heap.objs.size from λe=>hDo (e▸hb)),a9 _ _ (show b≠H2.objs.size from λe=>hCo (e▸hb))]; exact(hown b hb).1
  ·intro r s' h
   cases r with
   | error _=>exact h.elim
   | ok f=>
    refine o76 h λacc ys n g' l' σ' m' x xv R' hm' hl' rest=>?_
    refine hRR _ _ f s' hDfree hCfree hDC hD0 hC0 (m64 acc ys n g' σ' m' (λc h1 h2 hc=>?_) R' hm' rest)
    have e:=x3 c hc
    simp only[<-e]
    exact x c h1 h2 ((e)▸hc)
 exact iZ hg rfl loop (hself _ _ _ uY loop)
noncomputable def Ix(elt:Expr)(D:Addr)(cenv:Env):Sem Unit:=do let _ <-call (.builtin "list.append") [.ref D,<-eval elt cenv]
noncomputable def JE(elt:Expr)(gens:List Comprehension)(scope:Scope)(pos:Pos)(dp:Nat)(iter:Expr)(D:Addr)(cenv:Env):Sem Unit:=do
 let x <-eval iter cenv
 standAt iter.pos
 let x <-foldedSetIterable iter cenv x
 let _ <-runOwn (.compStart (.ListComp elt gens scope pos) dp (<-holding [x] (pyIter x)) (.ref D) cenv) cenv
theorem DV(elt t iter t2 iter2:Expr)(ifs ifs2:List Expr)(scope:Scope)(pos:Pos)(I D:Addr)(cenv:Env):oj (.ListComp elt [⟨t,iter,ifs,0⟩,⟨t2,iter2,ifs2,0⟩] scope pos) 0 t iter.pos ifs I D cenv (JE elt [⟨t,iter,ifs,0⟩,⟨t2,iter2,ifs2,0⟩] scope pos 1 iter2 D cenv):=by
 dsimp only[oj,JE]
 simp only[bind_assoc,pure_bind]
 rfl
theorem IX(elt t iter t2 iter2:Expr)(ifs ifs2:List Expr)(scope:Scope)(pos:Pos)(I D:Addr)(cenv:Env):oj (.ListComp elt [⟨t,iter,ifs,0⟩,⟨t2,iter2,ifs2,0⟩] scope pos) 1 t2 iter2.pos ifs2 I D cenv (Ix elt D cenv):=by rfl
theorem Iz{A:Around}{elt t iter t2 iter2:Expr}{ifs ifs2:List Expr}{scope:Scope}{pos:Pos}{D:Addr}{cenv:Env}{L:Addr}(hn:gJ iter2=true)(hDL:D≠L):BodyOk C W A cenv L D (F3 C W t2 iter2 ifs2 (tD C W elt)) (JE elt [⟨t,iter,ifs,0⟩,⟨t2,iter2,ifs2,0⟩] scope pos 1 iter2 D cenv):=
 BodyOk.for (λI=>IX elt t iter t2 iter2 ifs ifs2 scope pos I D cenv) rfl hn hDL (BodyOk.emit hDL)
theorem oD{t elt iter:Expr}{gs:List Comprehension}{B:kG}{body:Addr->Env->Sem Unit}{ifs:List Expr}{scope:Scope}{pos:Pos}{l:Loc}{σ:aK}{Q:V->aK->Prop}(ok:om W iter scope)(hturn:∀I D cenv,oj (.ListComp elt (⟨t,iter,ifs,0⟩::gs) scope pos) 0 t iter.pos ifs I D cenv (body D cenv))(hB:∀A D cenv L,D≠L->BodyOk C (ex scope W) A cenv L D B (body D cenv))
  (h:jp C X W t iter l σ λcur aA=>∃fu,jS C (ex scope W) cur t ifs B fu 0 [] (λJ=>ax) aA λacc J aT=>Q (.ref aT.nx) (aT.push (.list acc))) :
  SE C X W (.ListComp elt (⟨t,iter,ifs,0⟩::gs) scope pos) l σ Q:=λg A cenv L m s p=>by
 refine wpAny_comprehension_free (use:=ax) rfl (λJ=>iO (e:=iter) ok.set) (nK (uJ ok.free p.E)) ok.kind (qI ok.loc) (wpAny_mono (h g A cenv L m s p) (λxv aQ iq=>wpAny_mono iq (λit b8 jy=>?_) λJ J e=>e) λJ J e=>e)
 obtain⟨I,own,cur,St,g',σ',rfl,e,R,hI,hself,hst,hown,fu,q⟩:=jy
 have p':=p.step e R
 refine s7 (C:=C) (W:=W) rfl hturn (hB A) (RR:=λacc C'=>compPost C.M A (X.P L g A.frames) ax (Up C g Q) acc C') (qL ok.cell) ok.kind (λx i h=>s8 p'.E.cells _ _ _ ok.free (λJ J h=>by cases h) x i h) p' hI hself hst (λb hb=>(hown b hb).2) q ?_
 intro D C' f s' hD hC hDC hD0 hC0 hp
 refine o64 (id hp) λJ J J J J m' J R' hm' J=>?_
 refine a0 m' (R'.fr _ _ hm') (λh' hs'=>?_)
 refine mL (xS hp hC hD hDC hs' hC0 hD0) λacc σ'' g'' x R'' hd q'=>?_
 exact Up.back e ⟨.ref σ''.nx,g'',_,x,R'',(a0 _ rfl hd),q'⟩
theorem B5{g:ac}{L:Addr}{cenv:Env}{elt:Expr}{gs:List Comprehension}{scope:Scope}{pos:Pos}{y:Str}{py:Pos}{n:Nat}{b:Bool}(E:qn W g L cenv)(h:swapsWith (.ListComp elt gs scope pos) (some (.Name y py)) n (lr W.sc)=pure b):swapsWith (.ListComp elt gs scope pos) (some (.Name y py)) n cenv=pure b:=by
 simp only[<-h]
 have e1:cenv.blockKind=(lr W.sc).blockKind:=by unfold Env.blockKind; rw[E.sc]; rfl
 have e2:cenv.kindOf y=(lr W.sc).kindOf y:=E.kindOf y
 dsimp only[swapsWith]
 simp only[e1,e2]
theorem CompPost.put{g':ac}{L C' D:Addr}{m mm:Str->Option Value}{QP:List V->aK->Prop}{s':Shared}{jy:Heap}{tk:Nat}(hL:g' L=.fr m)(hLC:L≠C')(hLD:L≠D)(hn:jy.Ns L mm)(hs:bC L s'.heap jy)(hp:CompPost C g' C' D QP s'):CompPost C (g'.put L (.fr mm)) C' D QP { s' with heap:=jy,toks:=tk }:=by
 obtain⟨IR,Ke,n₀,dR,aT,Dk,lB,dM,Ki,Kl,Gm,mh⟩:=hp
 have hL2:dR L=.fr m:=(lB L hLC hLD (by rw[hL]; intro h; cases h)).trans hL
 refine⟨IR,Ke,n₀,_,aT,Dk,λc h1 h2 hc=>?_,dM.store (tk:=tk) hL2 hn hs,(a9 _ _ (bA hLC)).trans Ki,(a9 _ _ (bA hLD)).trans Kl,Gm.ext ((eG.put (L:=L) dR _).v (by rw[hL2]; exact λh=>h)),mh⟩
 by_cases e:c=L
 ·subst e; rw[aC,aC]
 ·rw[a9 _ _ e] at hc ⊢
  rw[a9 _ _ e]
  exact lB c h1 h2 hc
theorem mn{t elt iter:Expr}{gs:List Comprehension}{B:kG}{body:Addr->Env->Sem Unit}{y:Str}{py:Pos}{ifs:List Expr}{scope:Scope}{pos spos:Pos}{l:Loc}{σ:aK}{Q:Fl->Loc->aK->Prop}(ok:om W iter scope)(hturn:∀I D cenv,oj (.ListComp elt (⟨t,iter,ifs,0⟩::gs) scope pos) 0 t iter.pos ifs I D cenv (body D cenv))(hB:∀A D cenv L,D≠L->BodyOk C (ex scope W) A cenv L D B (body D cenv))
  (hy:W.sc.names.lookup y=some .local)(hsw:swapsWith (.ListComp elt (⟨t,iter,ifs,0⟩::gs) scope pos) (some (.Name y py)) spos.line (lr W.sc)=pure true)
  (h:jp C X W t iter l σ λcur aA=>∃fu,jS C (ex scope W) cur t ifs B fu 0 [] (λJ=>ax) aA λacc J aT=>Q .next (l.set y (.ref aT.nx)) (aT.push (.list acc))) :
  S1 C X W (.Assign [.Name y py] (.ListComp elt (⟨t,iter,ifs,0⟩::gs) scope pos) spos) l σ Q:=λg A cenv L m s p J=>by
 have hsw':=B5 p.E hsw
 rw[exec_Assign_Name_used _ _ _ _ hsw']
 refine wpAny_bind (wpAny_standAt (wpAny_bind ?_))
 refine wpAny_bind (wpAny_mono (wpAny_comprehension_free (use:=some (PySem.assign (.Name y py) cenv)) (Q:=λJ s'=>CY C L g Q .next s') rfl (λJ=>iO (e:=iter) ok.set) (nK (uJ ok.free p.E)) ok.kind (qI ok.loc)
  (wpAny_mono (h g A cenv L m s p) (λxv aQ iq=>wpAny_mono iq (λit b8 jy=>?_) λJ J e=>e) λJ J e=>e)) (λJ s' hq=>wpAny_pure (wpAny_pure hq)) λJ J e=>e)
 obtain⟨I,own,cur,St,g',σ',rfl,e,R,hI,hself,hst,hown,fu,q⟩:=jy
 have p':=p.step e R
 refine s7 (C:=C) (W:=W) rfl hturn (hB A) (RR:=λacc C'=>compPost C.M A (X.P L g A.frames) (some (PySem.assign (.Name y py) cenv)) (λJ s'=>CY C L g Q .next s') acc C') (qL ok.cell) ok.kind (λx i h=>s8 p'.E.cells _ _ _ ok.free (λJ J h=>by cases h) x i h) p' hI hself hst (λb hb=>(hown b hb).2) q ?_
 intro D C' f s' hD hC hDC hD0 hC0 hp
 refine o65 (id hp) λJ J J cj J m' jx R' hm' hd' J=>?_
 have hLfr:g' L=.fr m:=p'.fm
 have hLC:L≠C':=λe=>by rw[e,hC] at hLfr; cases hLfr
 have hLD:L≠D:=λe=>by rw[e,hD] at hLfr; cases hLfr
 have hL1:cj L=.fr m:=(jx L hLC hLD (by rw[hLfr]; intro h; cases h)).trans hLfr
 refine wpAny_assign_Name (wpAny_storeName_local ((p.E.kindOf y).trans hy) ((p.E.loc)▸R'.fr L m hL1) (λjy H6 gN=>?_) (jG p.E))
 rw[p.E.loc] at H6 gN
 have hmC:jy.Ns C' m':=(R'.fr _ _ hm').at' λo e=>(gN.2 C' (bA hLC)).trans e
 refine a0 m' hmC (λh' hs'=>?_)
 have hp2:=hp.put (tk:=s'.toks+1) hLfr hLC hLD H6 gN
 have xvg:dN g' (g'.put L (.fr λz=>if z=y then some (.ref D) else m z)):=(eG.put (L:=L) g' _).v (by rw[hLfr]; exact λh=>h)
 refine mL (xS hp2 ((a9 _ _ (bA hLC)).trans hC) ((a9 _ _ (bA hLD)).trans hD) hDC hs' hC0 hD0) λacc σ'' g'' x R'' hd q'=>?_
 have hLm:g'' L=.fr λz=>if z=y then some (.ref D) else m z:=x.at (aC ..) (by intro h; cases h)
 exact⟨.next,_,g'',_,_,(e.l L).trans ((eG.put g' _).trans (x.l L)),R'',hLm,jU.set (d:=.ref σ''.nx) (p'.fl.ext (xvg.trans x.v)) (a0 D rfl hd),rfl,q'⟩
theorem Ib(elt t iter:Expr)(ifs:List Expr)(scope:Scope)(pos:Pos)(I D:Addr)(cenv:Env):oj (.ListComp elt [⟨t,iter,ifs,0⟩] scope pos) 0 t iter.pos ifs I D cenv (Ix elt D cenv):=by rfl
section
variable{t elt iter t2 iter2:Expr}{y:Str}{py:Pos}{ifs ifs2:List Expr}{scope:Scope}{pos spos:Pos}{l:Loc}{σ:aK}
theorem vb{Q:V->aK->Prop}(ok:om W iter scope)(h:jp C X W t iter l σ λcur aA=>∃fu,jS C (ex scope W) cur t ifs (tD C (ex scope W) elt) fu 0 [] (λJ=>ax) aA λacc J aT=>Q (.ref aT.nx) (aT.push (.list acc))) :
  SE C X W (.ListComp elt [⟨t,iter,ifs,0⟩] scope pos) l σ Q:=oD ok (Ib elt t iter ifs scope pos) (λJ J J J hDL=>BodyOk.emit hDL) h
theorem va{Q:V->aK->Prop}(ok:om W iter scope)(hn2:gJ iter2=true)(h:jp C X W t iter l σ λcur aA=>∃fu,jS C (ex scope W) cur t ifs (F3 C (ex scope W) t2 iter2 ifs2 (tD C (ex scope W) elt)) fu 0 [] (λJ=>ax) aA λacc J aT=>Q (.ref aT.nx) (aT.push (.list acc))) :
  SE C X W (.ListComp elt [⟨t,iter,ifs,0⟩,⟨t2,iter2,ifs2,0⟩] scope pos) l σ Q:=oD ok (DV elt t iter t2 iter2 ifs ifs2 scope pos) (λJ J J J hDL=>Iz hn2 hDL) h
theorem mq{Q:Fl->Loc->aK->Prop}(ok:om W iter scope)(hy:W.sc.names.lookup y=some .local)(hsw:swapsWith (.ListComp elt [⟨t,iter,ifs,0⟩] scope pos) (some (.Name y py)) spos.line (lr W.sc)=pure true)
  (h:jp C X W t iter l σ λcur aA=>∃fu,jS C (ex scope W) cur t ifs (tD C (ex scope W) elt) fu 0 [] (λJ=>ax) aA λacc J aT=>Q .next (l.set y (.ref aT.nx)) (aT.push (.list acc))) :
  S1 C X W (.Assign [.Name y py] (.ListComp elt [⟨t,iter,ifs,0⟩] scope pos) spos) l σ Q:=mn ok (Ib elt t iter ifs scope pos) (λJ J J J hDL=>BodyOk.emit hDL) hy hsw h
theorem rZ{Q:Fl->Loc->aK->Prop}(ok:om W iter scope)(hn2:gJ iter2=true)(hy:W.sc.names.lookup y=some .local)(hsw:swapsWith (.ListComp elt [⟨t,iter,ifs,0⟩,⟨t2,iter2,ifs2,0⟩] scope pos) (some (.Name y py)) spos.line (lr W.sc)=pure true)
  (h:jp C X W t iter l σ λcur aA=>∃fu,jS C (ex scope W) cur t ifs (F3 C (ex scope W) t2 iter2 ifs2 (tD C (ex scope W) elt)) fu 0 [] (λJ=>ax) aA λacc J aT=>Q .next (l.set y (.ref aT.nx)) (aT.push (.list acc))) :
  S1 C X W (.Assign [.Name y py] (.ListComp elt [⟨t,iter,ifs,0⟩,⟨t2,iter2,ifs2,0⟩] scope pos) spos) l σ Q:=mn ok (DV elt t iter t2 iter2 ifs ifs2 scope pos) (λJ J J J hDL=>Iz hn2 hDL) hy hsw h
end
end
section
variable{prog:Program}{w:World}{A:Around}{E:Value->Shared->Prop}{s:Shared}
theorem ir{h h':Heap}{it t b:Addr}{i:Nat}(x:IsTupIter h it t i)(k:bC b h h')(hn:it≠b):IsTupIter h' it t i:=aM x λo e r=>(a0 o ((k.2 it hn).trans e) r)
theorem oS{h h':Heap}{t b:Addr}{xs:Array Value}(x:IsTup h t xs)(k:bC b h h')(hn:t≠b):IsTup h' t xs:=aM x λo e r=>(a0 o ((k.2 t hn).trans e) r)
structure qP(h:Heap)(z TI TO i1 i2 l1 l2:Addr)(f0:Value)(k:Nat):Prop where
 zip:IsZip h z TI TO f0
 ins:IsPair h TI (.ref i1) (.ref i2)
 out:∃a b,IsPair h TO a b
 one:IsTupIter h i1 l1 k
 two:IsTupIter h i2 l2 k
theorem Gz{z TI TO i1 i2 l1 l2:Addr}{k:Nat}{xs ys:Array Value}{x y:Value}{Q:Value->Shared->Prop}(D:ZipApart z TI TO i1 i2 l1 l2)
  (S:qP s.heap z TI TO i1 i2 l1 l2 .none k)(hl1:IsTup s.heap l1 xs)(hl2:IsTup s.heap l2 ys)(hx:xs[k]?=some x)(hy:ys[k]?=some y)
  (hQ:∀h',qP h' z TI TO i1 i2 l1 l2 (rawInt s.heap.objs.size) (k+1)->h'.get? s.heap.objs.size=some (aN [x,y])->
   (∀c o,c≠z->c≠TO->c≠i1->c≠i2->s.heap.get? c=some o->h'.get? c=some o)->Q (.ref s.heap.objs.size) { s with heap:=h' }) :
  wpAny (model prog w) A (Builtin.«zip.__next__» ⟨[.ref z],[]⟩) (λfin s'=>∃v,fin=.done (.ret v)/\Q v s') E s:=by
 obtain⟨hz,hTI,⟨a,b,hTO⟩,h1,h2⟩:=S
 show wpAny _ _ (field (.ref z) 2>>=_) _ _ _
 refine bx (λJ=>wpAny_field hz rfl (x:=.bool false) rfl) ?_
 refine bx (λJ=>wpAny_field hz rfl (x:=.ref TI) rfl) ?_
 refine wpAny_bind (wpAny_seqItems hTI rfl ?_)
 refine wpAny_bind ?_
 refine wpAny_bind (wpAny_field hz rfl (x:=.none) rfl (wpAny_pure ?_))
 refine bx (λJ=>wpAny_rule) ?_
 refine bx (λJ=>wpAny_field hz rfl (x:=.ref TO) rfl) ?_
 refine tj (λJ=>wpAny_setField_rec hz (by simp)) λg1 z1 k1=>?_
 replace z1:IsZip g1 z TI TO .ellipsis:=z1
 refine wpAny_bind ?_
 refine wpAny_bind (wpAny_bind (wpAny_onRaise ?_))
 refine wpAny_bind (gA (ir h1 k1 D.i1z) (oS hl1 k1 D.l1z) hx λg2 it1 k2=>wpAny_pure ?_)
 have o2:IsPair g2 TO a b:=(k2.2 _ D.TOi1).trans ((k1.2 _ D.TOz).trans hTO)
 refine wpAny_bind (wpAny_seqItems o2 rfl ?_)
 refine wpAny_bind (wpAny_updateSeq_pair o2 λg3 o3 k3=>?_)
 replace o3:IsPair g3 TO x b:=o3
 refine wpAny_bind (wpAny_letGo (wpAny_pure ?_))
 refine wpAny_bind (wpAny_bind (wpAny_onRaise ?_))
 refine wpAny_bind (gA (ir (ir (ir h2 k1 D.i2z) k2 D.i12.symm) k3 D.TOi2.symm) (oS (oS (oS hl2 k1 D.l2z) k2 D.l2i1) k3 D.l2TO) hy λg4 it2 k4=>wpAny_pure ?_)
 have o4:IsPair g4 TO x b:=(k4.2 _ D.TOi2).trans o3
 refine wpAny_bind (wpAny_seqItems o4 rfl ?_)
 refine wpAny_bind (wpAny_updateSeq_pair o4 λg5 o5 k5=>?_)
 replace o5:IsPair g5 TO x y:=o5
 refine wpAny_bind (wpAny_letGo (wpAny_pure (wpAny_pure ?_)))
 refine bx (λJ=>wpAny_seqItems o5 rfl) ?_
 refine wpAny_bind (wpAny_newTuple ?_)
 have hsz:g5.objs.size=s.heap.objs.size:=by rw[k5.1,k4.1,k3.1,k2.1,k1.1]
 have z5:IsZip g5 z TI TO .ellipsis:=(k5.2 _ D.TOz.symm).trans ((k4.2 _ D.i2z.symm).trans ((k3.2 _ D.TOz.symm).trans ((k2.2 _ D.i1z.symm).trans z1)))
 have keep:∀c o,c≠z->c≠TO->c≠i1->c≠i2->s.heap.get? c=some o->g5.get? c=some o:=λc o c1 c2 c3 c4 e=>
  (k5.2 _ c2).trans ((k4.2 _ c4).trans ((k3.2 _ c2).trans ((k2.2 _ c3).trans ((k1.2 _ c1).trans e))))
 have one5:IsTupIter g5 i1 l1 (k+1):=ir (ir (ir it1 k3 D.TOi1.symm) k4 D.i12) k5 D.TOi1.symm
 have two5:IsTupIter g5 i2 l2 (k+1):=ir it2 k5 D.TOi2.symm
 have zlt:=aJ z5
 refine wpAny_bind ?_
 have z6:IsZip (g5.push (aN [x,y])) z TI TO .ellipsis:=ab _ z5
 refine wpAny_bind (wpAny_setField_rec z6 (by simp) λg7 z7 k7=>?_)
 replace z7:IsZip g7 z TI TO (rawInt g5.objs.size):=z7
 refine wpAny_setField_rec z7 (by simp) λg8 z8 k8=>?_
 replace z8:IsZip g8 z TI TO (rawInt g5.objs.size):=z8
 have up:∀c o,c≠z->g5.get? c=some o->g8.get? c=some o:=λc o c1 e=>(k8.2 _ c1).trans ((k7.2 _ c1).trans (ab _ e))
 have t8:g8.get? g5.objs.size=some (aN [x,y]):=(k8.2 _ (bP zlt)).trans ((k7.2 _ (bP zlt)).trans (ak _ rfl))
 rw[hsz] at z8 t8
 refine wpAny_pure (a0 _ rfl ?_)
 rw[hsz]
 refine hQ g8 ⟨z8,up _ _ D.TIz (keep _ _ D.TIz D.TITO D.TIi1 D.TIi2 hTI),(K9 x y (up _ _ D.TOz o5)),?_,?_⟩ t8 λc o c1 c2 c3 c4 e=>up c o c1 (keep c o c1 c2 c3 c4 e)
 ·refine aM one5 λo e r=>?_; exact a0 o (up _ _ D.i1z e) r
 ·refine aM two5 λo e r=>?_; exact a0 o (up _ _ D.i2z e) r
theorem IV{z TI TO i1 i2 l1 l2:Addr}{k:Nat}{xs ys:Array Value}{Q:PySem.Fin->Shared->Prop}(hh:A.handled=none)(D:ZipApart z TI TO i1 i2 l1 l2)
  (S:qP s.heap z TI TO i1 i2 l1 l2 .none k)(hl1:IsTup s.heap l1 xs)(hl2:IsTup s.heap l2 ys)(hend:xs[k]?=none∨ys[k]?=none)
  (hE:∀h' e,(∀c o,c≠z->c≠TO->c≠i1->c≠i2->s.heap.get? c=some o->h'.get? c=some o)->(∃o,h'.get? e=some o/\o.cls=.type "StopIteration")->E (.ref e) { s with heap:=h' }) :
  wpAny (model prog w) A (Builtin.«zip.__next__» ⟨[.ref z],[]⟩) Q E s:=by
 obtain⟨hz,hTI,⟨a,b,hTO⟩,h1,h2⟩:=S
 show wpAny _ _ (field (.ref z) 2>>=_) _ _ _
 refine bx (λJ=>wpAny_field hz rfl (x:=.bool false) rfl) ?_
 refine bx (λJ=>wpAny_field hz rfl (x:=.ref TI) rfl) ?_
 refine wpAny_bind (wpAny_seqItems hTI rfl ?_)
 refine wpAny_bind ?_
 refine wpAny_bind (wpAny_field hz rfl (x:=.none) rfl (wpAny_pure ?_))
 refine bx (λJ=>wpAny_rule) ?_
 refine bx (λJ=>wpAny_field hz rfl (x:=.ref TO) rfl) ?_
 refine tj (λJ=>wpAny_setField_rec hz (by simp)) λg1 z1 k1=>?_
 replace z1:IsZip g1 z TI TO .ellipsis:=z1
 refine wpAny_bind ?_
 refine wpAny_bind (wpAny_bind (wpAny_onRaise ?_))
 have fin:∀{g:Heap}{e:Addr},IsZip g z TI TO .ellipsis->(∃o,g.get? e=some o/\o.cls=.type "StopIteration")->(∀c o,c≠z->c≠TO->c≠i1->c≠i2->s.heap.get? c=some o->g.get? c=some o)->wpAny (model prog w) A (setField (.ref z) 0 .none) (λJ s'=>E (.ref e) s') E { s with heap:=g }:=by
  rintro g e hg ⟨o,ho,hc⟩ keep
  have hne:e≠z:=λq=>by cases q; rw[hg] at ho; cases ho; exact absurd hc (show b9 "zip"≠_ by decide)
  exact wpAny_setField_rec hg (by simp) λg' J k'=>hE g' e (λc o c1 c2 c3 c4 q=>(k'.2 _ c1).trans (keep c o c1 c2 c3 c4 q)) (a0 o ((k'.2 _ hne).trans ho) hc)
 cases hx:xs[k]? with
 | none=>
  refine wpAny_bind (jH hh (ir h1 k1 D.i1z) (oS hl1 k1 D.l1z) hx λg2 e k2 he=>?_)
  exact fin (k2 _ _ D.i1z.symm z1) he λc o c1 J c3 J q=>k2 _ _ c3 ((k1.2 _ c1).trans q)
 | some x=>
  have hy:ys[k]?=none:=by rcases hend with h | h; rw[hx] at h; cases h; exact h
  refine wpAny_bind (gA (ir h1 k1 D.i1z) (oS hl1 k1 D.l1z) hx λg2 it1 k2=>wpAny_pure ?_)
  have o2:IsPair g2 TO a b:=(k2.2 _ D.TOi1).trans ((k1.2 _ D.TOz).trans hTO)
  refine wpAny_bind (wpAny_seqItems o2 rfl ?_)
  refine wpAny_bind (wpAny_updateSeq_pair o2 λg3 o3 k3=>?_)
  refine wpAny_bind (wpAny_letGo (wpAny_pure ?_))
  refine wpAny_bind (wpAny_bind (wpAny_onRaise ?_))
  refine tj (λJ=>jH hh (ir (ir (ir h2 k1 D.i2z) k2 D.i12.symm) k3 D.TOi2.symm) (oS (oS (oS hl2 k1 D.l2z) k2 D.l2i1) k3 D.l2TO) hy) λg4 e k4 he=>?_
  exact fin (k4 _ _ D.i2z.symm ((k3.2 _ D.TOz.symm).trans ((k2.2 _ D.i1z.symm).trans z1))) he λc o c1 c2 c3 c4 q=>k4 _ _ c4 ((k3.2 _ c2).trans ((k2.2 _ c3).trans ((k1.2 _ c1).trans q)))
theorem GX{z TI TO i1 i2 l1 l2:Addr}{k:Nat}{xs ys:Array Value}{x y:Value}{Q:Option Value->Shared->Prop}(D:ZipApart z TI TO i1 i2 l1 l2)
  (S:qP s.heap z TI TO i1 i2 l1 l2 .none k)(hl1:IsTup s.heap l1 xs)(hl2:IsTup s.heap l2 ys)(hx:xs[k]?=some x)(hy:ys[k]?=some y)
  (hQ:∀h',qP h' z TI TO i1 i2 l1 l2 (rawInt s.heap.objs.size) (k+1)->h'.get? s.heap.objs.size=some (aN [x,y])->
   (∀c o,c≠z->c≠TO->c≠i1->c≠i2->s.heap.get? c=some o->h'.get? c=some o)->Q (some (.ref s.heap.objs.size)) { s with heap:=h' }) :
  wpAny (model prog w) A (pyNext (.ref z)) Q E s:=by
 have hT:s.TypeIs (.ref z) "zip":=(a0 _ S.zip rfl)
 exact wpAny_bind (wpAny_attempt (wpAny_callSpecial?_slot (name:=di "__next__") hT PySem.F.slot_zip_next
  (wpAny_call_entry PySem.F.slot_zip_next hT PySem.F.entry_zip_next (Gz D S hl1 hl2 hx hy λh' a1 a2 a3=>wpAny_pure (hQ h' a1 a2 a3)) (PySem.F.args_zip_next_1 _))))
theorem Hp{z TI TO i1 i2 l1 l2:Addr}{k:Nat}{xs ys:Array Value}{Q:Option Value->Shared->Prop}(hh:A.handled=none)(D:ZipApart z TI TO i1 i2 l1 l2)
  (S:qP s.heap z TI TO i1 i2 l1 l2 .none k)(hl1:IsTup s.heap l1 xs)(hl2:IsTup s.heap l2 ys)(hend:xs[k]?=none∨ys[k]?=none)
  (hQ:∀h',(∀c o,c≠z->c≠TO->c≠i1->c≠i2->s.heap.get? c=some o->h'.get? c=some o)->Q none { s with heap:=h' }):wpAny (model prog w) A (pyNext (.ref z)) Q E s:=by
 have hT:s.TypeIs (.ref z) "zip":=(a0 _ S.zip rfl)
 refine wpAny_bind (wpAny_attempt (wpAny_callSpecial?_slot (name:=di "__next__") hT PySem.F.slot_zip_next
  (wpAny_call_entry PySem.F.slot_zip_next hT PySem.F.entry_zip_next (IV hh D S hl1 hl2 hend λh' e hk he=>?_) (PySem.F.args_zip_next_1 _))))
 refine aM he λo ho hc=>?_
 refine bx (λJ=>wpAny_isInstance (T:="StopIteration") (b:=true) (a0 o ho hc) isSubtype_stop) ?_
 exact wpAny_pure (hQ _ hk)
theorem IU{l1 l2:Addr}{xs ys:Array Value}{Q:Value->Shared->Prop}(hl1:s.heap.IsTuple l1 xs)(hl2:s.heap.IsTuple l2 ys)
  (h:∀h',qP h' (s.heap.objs.size+4) (s.heap.objs.size+2) (s.heap.objs.size+3) s.heap.objs.size (s.heap.objs.size+1) l1 l2 .none 0->(∀c o,s.heap.get? c=some o->h'.get? c=some o)->Q (.ref (s.heap.objs.size+4)) { s with heap:=h' }) :
  wpAny (model prog w) A (call (.type "zip") [.ref l1,.ref l2]) Q E s:=by
 have z:∀(h:Heap)(o:Obj),(h.push o).objs.size=h.objs.size+1:=λh o=>fh ..
 have body:Meets (Builtin.«zip.__new__» ⟨[.type "zip",.ref l1,.ref l2],[]⟩) (λJ R s=>s.heap.IsTuple l1 xs/\s.heap.IsTuple l2 ys/\
   R (.ok (.ret (.ref (s.heap.objs.size+4)))) { s with heap:=((((s.heap.push { cls:=.type "tuple_iterator",data:=.fields #[.ref l1,.int 0 0] }).push { cls:=.type "tuple_iterator",data:=.fields #[.ref l2,.int 0 0] }).push (aN [.ref s.heap.objs.size,.ref (s.heap.objs.size+1)])).push (aN [.none,.none])).push { cls:=.type "zip",data:=.fields #[.none,.bool false,.bool false,.ref (s.heap.objs.size+2),.ref (s.heap.objs.size+3)] } }):=
  .of_wp λprog w A R s h=>by
   obtain⟨hp,g,d,tk,os⟩:=s
   refine sE h λa1 a2 h=>?_
   have hsub:=sub_zip
   have b1:K7 (Shared.heap ⟨hp,g,d,tk,os⟩) l1 xs:=a1
   have b2:K7 (Shared.heap ⟨hp.push { cls:=.type "tuple_iterator",data:=.fields #[.ref l1,.int 0 0] },g,d,tk,os⟩) l2 ys:=Heap.IsTuple.push a2 _
   wp_walk using wpAny_pyIter_tuple b1,wpAny_pyIter_tuple b2
   refine a0 _ rfl ?_
   simp only[z] at h ⊢
   exact h
 refine callType_new PySem.F.called_zip rfl (PySem.F.typeCall_zip_2 _ _) (PySem.F.newCall_zip_2 _ _) (λobj=>PySem.F.args_object_init_3 obj _ _) PySem.F.entry_zip_new body ⟨hl1,hl2,?_⟩
 show _/\_
 generalize hh1:s.heap.push { cls:=.type "tuple_iterator",data:=.fields #[.ref l1,.int 0 0] }=H1
 have n1:H1.objs.size=s.heap.objs.size+1:=by rw[<-hh1]; exact z _ _
 have e1:H1.get? s.heap.objs.size=some { cls:=.type "tuple_iterator",data:=.fields #[.ref l1,.int 0 0] }:=by rw[<-hh1]; exact ak _ rfl
 have u1:∀c o,s.heap.get? c=some o->H1.get? c=some o:=λc o q=>by rw[<-hh1]; exact ab _ q
 generalize hh2:H1.push { cls:=.type "tuple_iterator",data:=.fields #[.ref l2,.int 0 0] }=H2
 have n2:H2.objs.size=s.heap.objs.size+2:=by rw[<-hh2,z,n1]
 have e2:H2.get? (s.heap.objs.size+1)=some { cls:=.type "tuple_iterator",data:=.fields #[.ref l2,.int 0 0] }:=by rw[<-hh2,<-n1]; exact ak _ rfl
 have u2:∀c o,H1.get? c=some o->H2.get? c=some o:=λc o q=>by rw[<-hh2]; exact ab _ q
 generalize hh3:H2.push (aN [.ref s.heap.objs.size,.ref (s.heap.objs.size+1)])=H3
 have n3:H3.objs.size=s.heap.objs.size+3:=by rw[<-hh3,z,n2]
 have e3:H3.get? (s.heap.objs.size+2)=some (aN [.ref s.heap.objs.size,.ref (s.heap.objs.size+1)]):=by rw[<-hh3,<-n2]; exact ak _ rfl
 have u3:∀c o,H2.get? c=some o->H3.get? c=some o:=λc o q=>by rw[<-hh3]; exact ab _ q
 generalize hh4:H3.push (aN [.none,.none])=H4
 have n4:H4.objs.size=s.heap.objs.size+4:=by rw[<-hh4,z,n3]
 have e4:H4.get? (s.heap.objs.size+3)=some (aN [.none,.none]):=by rw[<-hh4,<-n3]; exact ak _ rfl
 have u4:∀c o,H3.get? c=some o->H4.get? c=some o:=λc o q=>by rw[<-hh4]; exact ab _ q
 generalize hh5:H4.push { cls:=.type "zip",data:=.fields #[.none,.bool false,.bool false,.ref (s.heap.objs.size+2),.ref (s.heap.objs.size+3)] }=H5
 have e5:H5.get? (s.heap.objs.size+4)=some { cls:=.type "zip",data:=.fields #[.none,.bool false,.bool false,.ref (s.heap.objs.size+2),.ref (s.heap.objs.size+3)] }:=by rw[<-hh5,<-n4]; exact ak _ rfl
 have u5:∀c o,H4.get? c=some o->H5.get? c=some o:=λc o q=>by rw[<-hh5]; exact ab _ q
 exact⟨⟨_,e5,rfl⟩,h H5 ⟨e5,u5 _ _ (u4 _ _ e3),⟨_,_,u5 _ _ e4⟩,⟨_,u5 _ _ (u4 _ _ (u3 _ _ (u2 _ _ e1))),rfl,rfl⟩,⟨_,u5 _ _ (u4 _ _ (u3 _ _ e2)),rfl,rfl⟩⟩ λc o q=>u5 _ _ (u4 _ _ (u3 _ _ (u2 _ _ (u1 _ _ q))))⟩
end
section
variable{C:Cx}{X:bc}{W:En}{l:Loc}{σ:aK}{QI:tB->aK->Prop}
theorem Js{z TI TO i1 i2:Addr}{P:Addr->Prop}(h0:P z)(h1:P TI)(h2:P TO)(h3:P i1)(h4:P i2):∀b∈[z,TI,TO,i1,i2],P b:=λb hb=>by
 rcases aE.mp hb with rfl | hb
 ·exact h0
 rcases aE.mp hb with rfl | hb
 ·exact h1
 rcases aE.mp hb with rfl | hb
 ·exact h2
 rcases aE.mp hb with rfl | hb
 ·exact h3
 rcases aE.mp hb with rfl | hb
 ·exact h4
 ·cases hb
theorem Hd{gb:ac}{A:Around}{ts:List Expr}{k:Nat}{pos:Pos}{z TI TO i1 i2 l1 l2:Addr}{ds es:List V}(hh:A.handled=.none)(hd:VR gb (.tup ds) (.ref l1))(he:VR gb (.tup es) (.ref l2))(D:ZipApart z TI TO i1 i2 l1 l2)
  (h0:∀b∈[z,TI,TO,i1,i2],C.H0.get? b=none):uj C gb A (.Tuple ts k pos) z [z,TI,TO,i1,i2] (JH ds es) (λj h=>qP h z TI TO i1 i2 l1 l2 .none j):=by
 have keep:∀{g:ac}{σ:aK}{s s':Shared},bV C g σ s->(∀b∈[z,TI,TO,i1,i2],g b=.free)->(∀b o,b≠z->b≠TO->b≠i1->b≠i2->s.heap.get? b=some o->s'.heap.get? b=some o)->s'.gens=s.gens->s'.os=s.os->bV C g σ s':=λR hown hk hg ho=>
  R.keepsT (λb o hb q=>by
   have ne:∀c∈[z,TI,TO,i1,i2],b≠c:=λc hc e=>by
    subst e
    refine dn hb (λhb=>?_) (λhb=>?_)
    ·exact hb (hown _ hc)
    ·exact hb (h0 _ hc)
   exact hk b o (ne z (by simp)) (ne TO (by simp)) (ne i1 (by simp)) (ne i2 (by simp)) q) hg ho
 refine⟨λj=>⟨λh h' S q=>?_,λh S=>?_⟩,λj d'=>?_,λj=>?_⟩
 ·obtain⟨a1,a2,⟨x,y,a3⟩,⟨o1,a4,r4⟩,o2,a5,r5⟩:=S
  exact⟨q _ (by simp) _ a1,q _ (by simp) _ a2,(K9 x y (q _ (by simp) _ a3)),(a0 o1 (q _ (by simp) _ a4) r4),(a0 o2 (q _ (by simp) _ a5) r5)⟩
 ·obtain⟨a1,a2,⟨x,y,a3⟩,⟨o1,a4,r4⟩,o2,a5,r5⟩:=S
  exact Js (P:=λb=>∃o,h.get? b=some o) ⟨_,a1⟩ ⟨_,a2⟩ ⟨_,a3⟩ ⟨_,a4⟩ ⟨_,a5⟩
 ·rintro g σ s Q E hb R hown hj S hQ
  refine bD (cS R (hd.ext hb)) λb1 vs q1 ho1 hvs=>?_
  cases q1
  refine bD (cS R (he.ext hb)) λb2 us q2 ho2 hus=>?_
  cases q2
  have hj:some d'=(match ds[j]?,es[j]? with | some a,some b=>some (V.tup [a,b]) | _,_=>ax):=hj
  obtain⟨da,hda,db,hdb,rfl⟩:∃da,ds[j]?=some da/\∃db,es[j]?=some db/\d'=.tup [da,db]:=by
   cases e1:ds[j]? with
   | none=>rw[e1] at hj; cases hj
   | some da=>
    cases e2:es[j]? with
    | none=>rw[e1,e2] at hj; cases hj
    | some db=>rw[e1,e2] at hj; exact⟨da,rfl,db,rfl,aw hj⟩
  refine aM (hvs.get hda) λv hv rv=>?_
  refine aM (hus.get hdb) λu hu ru=>?_
  refine GX D S (d9 ho1) (d9 ho2) (by simpa using hv) (by simpa using hu) λh' S' htp hk=>?_
  refine hQ _ _ λQ' E' hq=>wpAny_letOwnedTupleGo_zip S'.zip λjy Kg gN=>?_
  have hfree:=R.free_size (ad s.heap.objs.size)
  have lt:∀{b o},s.heap.get? b=some o->b≠s.heap.objs.size:=λe=>aB (aJ e)
  obtain⟨a1,a2,⟨x,y,a3⟩,⟨o1,a4,_⟩,o2,a5,_⟩:=S
  have hzs:z≠s.heap.objs.size:=lt a1
  have R1:bV C g σ { s with heap:=jy }:=keep R hown (λb o c1 c2 c3 c4 q=>(gN.2 b c1).trans (hk b o c1 c2 c3 c4 q)) rfl rfl
  have R2:=R1.retag (a:=s.heap.objs.size) (t:=.froz (aN [v,u])) (by rw[hfree]; exact λh=>h) (show jy.get? _=_ from(gN.2 _ (bA hzs)).trans htp)
  have xx:dA g (g.put s.heap.objs.size (.froz (aN [v,u]))):=dA.put hfree _
  obtain⟨_,c2,⟨x',y',c3⟩,⟨p1,c4,r4⟩,p2,c5,r5⟩:=S'
  refine hq _ _ xx (λb hb=>?_) R2 ⟨_,_,rfl,aC ..,v,_,rfl,rv.ext xx.v,u,_,rfl,ru.ext xx.v,rfl⟩ ⟨Kg,(gN.2 _ D.TIz).trans c2,(K9 x' y' ((gN.2 _ D.TOz).trans c3)),(a0 p1 ((gN.2 _ D.i1z).trans c4) r4),(a0 p2 ((gN.2 _ D.i2z).trans c5) r5)⟩
  rw[a9 _ _ (Js (P:=λb=>b≠s.heap.objs.size) hzs (lt a2) (lt a3) (lt a4) (lt a5) b hb)]
  exact hown b hb
 ·rintro g σ s Q E hb R hown hj S hQ
  refine bD (cS R (hd.ext hb)) λb1 vs q1 ho1 hvs=>?_
  cases q1
  refine bD (cS R (he.ext hb)) λb2 us q2 ho2 hus=>?_
  cases q2
  have hj:ax=(match ds[j]?,es[j]? with | some a,some b=>some (V.tup [a,b]) | _,_=>ax):=hj
  have hend:vs.toArray[j]?=none∨us.toArray[j]?=none:=by
   cases e1:ds[j]? with
   | none=>exact .inl (by have:=eJ.mp e1; rw[hvs.length] at this; simpa using this)
   | some da=>
    cases e2:es[j]? with
    | none=>exact .inr (by have:=eJ.mp e2; rw[hus.length] at this; simpa using this)
    | some db=>rw[e1,e2] at hj; cases hj
  exact Hp (by simpa using hh) D S (d9 ho1) (d9 ho2) hend λh' hk=>hQ _ (keep R hown hk rfl rfl)
theorem jp.zip{ts:List Expr}{k:Nat}{tp np pos:Pos}{x:Str}{e f:Expr}(hc:W.calm=true)(hs:dW e=true)(hs':dW f=true)(hx:SE C X W (.Name x np) l σ λfv aA=>fv=.val (.type "zip")/\SE C X W e l aA λd aT=>∃ds,d=.tup ds/\SE C X W f l aT λd' ez=>∃es,d'=.tup es/\QI (JH ds es) ez) :
  jp C X W (.Tuple ts k tp) (.Call (.Name x np) [e,f] [] pos) l σ QI:=λg A cenv L m s p=>by
 refine wpAny_Call_ofName (wpAny_mono (hx g A cenv L m s p) ?_ λJ J h=>h)
 rintro fv aQ ⟨fd,cj,aA,jx,b7,hf,rfl,q⟩
 have cf:=p.step jx b7
 have hf':fv=.type "zip":=hf
 subst hf'
 refine wpAny_mono (te (fs:=[]) (first:=[]) (f:=.val (.type "zip")) (by simp[dP,hs,hs']) bI.type cf rfl rfl (SL.cons hs (SE.mono q λd aT hq=>aM hq λds e1 q2=>SL.cons hs' (SE.mono q2 λd' ez ⟨es,e2,hq⟩=>SL.nil ?_))) (Pst:=AD C X A L g (.Tuple ts k tp) QI)) (λJ J h=>h) λJ J h=>X.mono jx h
 rw[e1]; subst e2
 rintro dR b8 vs lB dM - ⟨v,_,rfl,hv,u,_,rfl,hu,rfl⟩
 have hv':=hv
 have hu':=hu
 refine bD (cS dM hv) λa us e2r ho hus=>?_
 subst e2r
 refine bD (cS dM hu) λb ws e2r ho2 hws=>?_
 subst e2r
 have nw:=cf.step lB dM
 refine IU ⟨_,ho,rfl,0,rfl⟩ ⟨_,ho2,rfl,0,rfl⟩ λh' S hk=>?_
 have k0:bV C dR ez { b8 with heap:=h' }:=dM.keeps hk
 have xx:=jx.trans lB
 have back:∀b,dR b=.free->g b=.free:=λb hb=>by
  by_cases q:g b=.free
  ·exact q
  ·have:=xx b q; rw[hb] at this; exact absurd this.symm q
 have la:=aJ ho
 have lb:=aJ ho2
 have D:ZipApart (b8.heap.objs.size+4) (b8.heap.objs.size+2) (b8.heap.objs.size+3) b8.heap.objs.size (b8.heap.objs.size+1) a b:=
  ⟨by simp,by simp,aB (cZ (cH _)),by simp,by simp,bP (cZ (cH _)),by simp,bP (cZ (cH _)),by simp,by simp,aB (af la (bg _ _)),aB (af la (bg _ _)),aB la,aB (af la (bg _ _)),aB (af lb (bg _ _)),aB (af lb (bg _ _)),aB lb,aB (af lb (bg _ _))⟩
 have big:∀c∈[b8.heap.objs.size+4,b8.heap.objs.size+2,b8.heap.objs.size+3,b8.heap.objs.size,b8.heap.objs.size+1],b8.heap.objs.size<=c:=Js (by exact bg _ _) (by exact bg _ _) (by exact bg _ _) (by exact ad _) (by exact cr _)
 refine wpAny_pyIter_zip S.zip ⟨_,_,_,_,dR,ez,rfl,xx,k0,Hd (nw.A.calm hc) hv' hu' D (λc hc=>dM.h0_size (big c hc)),λs' Q' E' st hq=>wpAny_pyIter_zip st.zip hq,S,λc hc=>⟨back _ (dM.free_size (big c hc)),dM.free_size (big c hc),dM.h0_size (big c hc)⟩,hq⟩
end
set_option genInjectivity true in
inductive KD where
 | i (n:Int)
 | s (x:Str)
 | nil
 | cons (a b:KD)
 deriving DecidableEq
mutual
noncomputable def kv:KD->V
 | .i n=>.int n
 | .s x=>.str x
 | .nil=>.tup []
 | .cons a b=>.tup (kv a::kvs b)
noncomputable def kvs:KD->List V
 | .cons a b=>kv a::kvs b
 | _=>[]
end
mutual
def dz(h:Heap):KD->Value->Prop
 | .i n,v=>∃t,v=.int n t
 | .s x,v=>cE x=true/\∃t,v=.str x t
 | .nil,v=>∃a,v=.ref a/\h.get? a=some (aN [])
 | .cons a b,v=>∃c u r,v=.ref c/\h.get? c=some (aN (u::r))/\dz h a u/\jc h b r
def jc(h:Heap):KD->List Value->Prop
 | .nil,vs=>vs=[]
 | .cons a b,vs=>∃u r,vs=u::r/\dz h a u/\jc h b r
 | _,_=>False
end
def jq(h:Heap)(k:KD)(a:Addr):Prop:=∃vs,h.get? a=some (aN vs)/\jc h k vs
theorem dz.tup{h:Heap}{k:KD}{a:Addr}(x:jq h k a):dz h k (.ref a):=by
 obtain⟨vs,e,r⟩:=x
 cases k with
 | nil=>cases r; exact a0 a rfl e
 | cons p q=>obtain⟨u,r,rfl,h1,h2⟩:=r; exact ub a u r rfl e h1 h2
 | i n=>exact r.elim
 | s x=>exact r.elim
theorem dz.ref{h:Heap}{k:KD}{a:Addr}(x:dz h k (.ref a)):jq h k a:=by
 cases k with
 | nil=>refine aM x λb e g=>?_; cases e; exact a0 _ g rfl
 | cons p q=>refine mL x λb u r e g h1 h2=>?_; cases e; exact⟨_,g,u,r,rfl,h1,h2⟩
 | i n=>obtain⟨t,e⟩:=x; cases e
 | s x=>obtain⟨_,t,e⟩:=x; cases e
theorem r6{h h':Heap}(k:∀a vs,h.get? a=some (aN vs)->h'.get? a=some (aN vs))(x:KD):(∀{v:Value},dz h x v->dz h' x v)/\∀{vs:List Value},jc h x vs->jc h' x vs:=by
 induction x with
 | i _=>exact⟨λx=>x,λx=>x⟩
 | s _=>exact⟨λx=>x,λx=>x⟩
 | nil=>exact⟨λz=>aM z λa e g=>a0 a e (k _ _ g),λx=>x⟩
 | cons _ _ iha ihb=>exact⟨λz=>mL z λc u r e g a b=>ub c u r e (k _ _ g) (iha.1 a) (ihb.2 b),λz=>bD z λu r e a b=>bX u r e (iha.1 a) (ihb.2 b)⟩
theorem dz.keeps{h h':Heap}(k:∀a vs,h.get? a=some (aN vs)->h'.get? a=some (aN vs)){x:KD}{v:Value}:dz h x v->dz h' x v:=(r6 k x).1
theorem jc.keeps{h h':Heap}(k:∀a vs,h.get? a=some (aN vs)->h'.get? a=some (aN vs)){x:KD}{vs:List Value}:jc h x vs->jc h' x vs:=(r6 k x).2
mutual
noncomputable def A5:KD->PyData
 | .i n=>.int n
 | .s x=>.str x
 | .nil=>.tuple []
 | .cons a b=>.tuple (A5 a::xu b)
noncomputable def xu:KD->List PyData
 | .cons a b=>A5 a::xu b
 | _=>[]
end
theorem yO{h:Heap}(x:KD):(∀{v:Value},dz h x v->(∃as,Reads h v (A5 x) as)/\(A5 x).canLay0=true)/\∀{vs:List Value},jc h x vs->(∃as,ReadsAll h vs (xu x) as)/\c8 (xu x)=true:=by
 induction x with
 | i _=>exact⟨λz=>ik z λt e=>by subst e; exact⟨⟨_,.int _ t⟩,rfl⟩,λx=>x.elim⟩
 | s _=>exact⟨λz=>ik z.2 λt e=>by subst e; exact⟨⟨_,.str _ t⟩,z.1⟩,λx=>x.elim⟩
 | nil=>exact⟨λz=>aM z λa e g=>by subst e; exact⟨⟨_,.tuple g rfl rfl .nil⟩,rfl⟩,λe=>by cases e; exact⟨⟨_,.nil⟩,rfl⟩⟩
 | cons _ _ iha ihb=>
  exact⟨λz=>mL z λc u r e g a b=>eV (iha.1 a) λra ca=>eV (ihb.2 b) λrb cb=>ik ra λas ra=>ik rb λbs rb=>by subst e; exact⟨⟨_,.tuple g rfl rfl (.cons ra rb)⟩,congr (congrArg and ca) cb⟩,
   λz=>bD z λu r e a b=>eV (iha.1 a) λra ca=>eV (ihb.2 b) λrb cb=>ik ra λas ra=>ik rb λbs rb=>by subst e; exact⟨⟨_,.cons ra rb⟩,congr (congrArg and ca) cb⟩⟩
theorem dz.reads{h:Heap}{x:KD}{v:Value}:dz h x v->(∃as,Reads h v (A5 x) as)/\(A5 x).canLay0=true:=(yO x).1
mutual
noncomputable def IW:PyData->KD
 | .int n=>.i n
 | .str x=>.s x
 | .tuple xs=>DT xs
 | _=>.nil
noncomputable def DT:List PyData->KD
 | []=>.nil
 | x::r=>.cons (IW x) (DT r)
end
theorem Gy{h:Heap}(x:KD):(∀{v:Value},dz h x v->IW (A5 x)=x)/\∀{vs:List Value},jc h x vs->DT (xu x)=x:=by
 induction x with
 | i _=>exact⟨λJ=>rfl,λx=>x.elim⟩
 | s _=>exact⟨λJ=>rfl,λx=>x.elim⟩
 | nil=>exact⟨λJ=>rfl,λJ=>rfl⟩
 | cons _ _ iha ihb=>exact⟨λz=>mL z λJ J J J J a b=>congr (congrArg KD.cons (iha.1 a)) (ihb.2 b),λz=>bD z λJ J J a b=>congr (congrArg KD.cons (iha.1 a)) (ihb.2 b)⟩
theorem dz.un{h:Heap}{x:KD}{v:Value}:dz h x v->IW (A5 x)=x:=(Gy x).1
theorem dz.inj{h:Heap}{x y:KD}{v:Value}(a:dz h x v)(b:dz h y v):x=y:=by
 obtain⟨⟨as,ra⟩,_⟩:=a.reads
 obtain⟨⟨bs,rb⟩,_⟩:=b.reads
 rw[<-a.un,<-b.un,(ra.unique _ _ rb).1]
section
mutual
noncomputable def md:KD->WData
 | .i n=>.int n
 | .s x=>.str x
 | .nil=>.tuple []
 | .cons a b=>.tuple (md a::xt b)
noncomputable def xt:KD->List WData
 | .cons a b=>md a::xt b
 | _=>[]
end
noncomputable def Cr:Bool->KD->Nat
 | false,.cons a b=>Cr false a+Cr true b+1
 | false,_=>1
 | true,.cons a b=>Cr false a+Cr true b
 | true,_=>0
noncomputable def gS:Bool->KD->Nat
 | false,.cons a b=>max (gS false a) (gS true b)+1
 | false,.nil=>1
 | false,_=>0
 | true,.cons a b=>max (gS false a) (gS true b)
 | true,_=>0
section
variable{prog:Program}{w:World}{A:Around}{E:Value->Shared->Prop}{s:Shared}
theorem Bd{k:KD}{a:Addr}{vs:List Value}{hs:List Int}{d:Nat}{Q:Int->Shared->Prop}(hu:A.units+1<cLine)(hg:s.heap.get? a=some (aN vs))(h:Q (reduceHash (qq hs)) { s with toks:=s.toks+(d+1) })
  (loop:∀(R:Array Int->Shared->Prop),(∀b',b'.toList=hs->R b' { s with toks:=s.toks+d })->wpAny (model prog w) A.in1 (forIn vs #[] λx r=>do let h <-pyHash x; pure PUnit.unit; pure (ForInStep.yield (r.push h))) R E s):wpAny (model prog w) A (pyHash (.ref a)) Q E s:=by
 refine pyHash_slot (T:="tuple") (a0 _ hg rfl) PySem.F.slot_tuple_hash PySem.F.entry_tuple_hash (PySem.F.args_tuple_hash_1 _) (beq_builtin_none _) (.inr (by exact adz ‹_›)) ?_
 show wpAny _ _ (Builtin.Tuple.tupleItemsOf (.ref a)>>=_) _ _ s
 refine bx (λJ=>wpAny_tupleItemsOf hg rfl) ?_
 refine wpAny_bind ?_
 rw[<-kJ]
 refine loop _ λb hb=>?_
 show wpAny _ _ (retInt (qq b.toList)) _ _ _
 rw[hb]
 exact wpAny_bind (wpAny_mkInt (wpAny_pure (rn _ _ rfl (by exact h))))
theorem B1(k:KD):(∀(v:Value)(A:Around)(s:Shared)(Q:Int->Shared->Prop),dz s.heap k v->A.units+gS false k<cLine->Q (hashW w.params (md k)) { s with toks:=s.toks+Cr false k }->wpAny (model prog w) A (pyHash v) Q E s)/\
  ∀(vs:List Value)(A:Around)(s:Shared)(b:Array Int)(R:Array Int->Shared->Prop),jc s.heap k vs->A.units+gS true k<cLine->(∀b',b'.toList=b.toList++hashesW w.params (xt k)->R b' { s with toks:=s.toks+Cr true k })->
  wpAny (model prog w) A (forIn vs b λx r=>do let h <-pyHash x; pure PUnit.unit; pure (ForInStep.yield (r.push h))) R E s:=by
 induction k with
 | i n=>exact⟨λv A s Q x J h=>ik x λt e=>by subst e; exact wpAny_pyHash_int (hashW_int w.params n▸h),λJ J J J J x=>x.elim⟩
 | s y=>exact⟨λv A s Q x J h=>ik x.2 λt e=>by subst e; exact wpAny_pyHash_str h,λJ J J J J x=>x.elim⟩
 | nil=>exact⟨λv A s Q x hu h=>aM x λa e hg=>by
   subst e
   exact Bd (k:=.nil) (d:=0) (hs:=[]) hu hg (by exact h) λR hR=>wpAny_pure (hR _ rfl),λvs A s b R x J h=>by
   cases x
   exact wpAny_pure (h b (by show b.toList=b.toList++hashesW w.params []; rw[hashesW,dq]))⟩
 | cons p q ihp ihq=>
  have lst:∀(u:Value)(r:List Value)(A:Around)(s:Shared)(b:Array Int)(R:Array Int->Shared->Prop),dz s.heap p u->jc s.heap q r->A.units+max (gS false p) (gS true q)<cLine->(∀b',b'.toList=b.toList++hashesW w.params (md p::xt q)->R b' { s with toks:=s.toks+(Cr false p+Cr true q) })->
    wpAny (model prog w) A (forIn (u::r) b λx r=>do let h <-pyHash x; pure PUnit.unit; pure (ForInStep.yield (r.push h))) R E s:=λu r A s b R h1 h2 hu h=>by
   rw[eK]
   refine wpAny_bind (wpAny_bind (ihp.1 u _ s _ h1 (ah (au (fJ _ _) _) hu) (wpAny_bind (wpAny_pure (wpAny_pure ?_)))))
   refine ihq.2 r A _ _ _ h2 (ah (au (gE _ _) _) hu) λb' hb=>?_
   have:=h b' (by rw[hb,hashesW]; simp)
   rwa [<-Nat.add_assoc] at this
  exact⟨λv A s Q x hu h=>mL x λc u r e hg h1 h2=>by
   subst e
   have hu:A.units+(max (gS false p) (gS true q)+1)<cLine:=hu
   refine Bd (k:=.cons p q) (d:=Cr false p+Cr true q) (hs:=hashW w.params (md p)::hashesW w.params (xt q)) (by exact adl ‹_› rfl) hg (by exact h) λR hR=>?_
   refine lst u r A.in1 s _ _ h1 h2 (by simp only[dC]; exact ah (am (aV A.units _)) hu) λb' hb=>hR b' (by rw[hb,hashesW]; rfl),λvs A s b R x hu h=>bD x λu r e h1 h2=>by subst e; exact lst u r A s b R h1 h2 hu h⟩
theorem dz.hash(k:KD)(v:Value)(A:Around)(s:Shared)(Q:Int->Shared->Prop):dz s.heap k v->A.units+gS false k<cLine->Q (hashW w.params (md k)) { s with toks:=s.toks+Cr false k }->wpAny (model prog w) A (pyHash v) Q E s:=(B1 k).1 v A s Q
theorem Bj{a b c d:KD}:(decide (a=c)&&decide (b=d))=decide (KD.cons a b=KD.cons c d):=
 (Bool.decide_and (a=c) (b=d)).symm.trans (decide_eq_decide.mpr ⟨λq=>by rw[q.1,q.2],λe=>KD.cons.inj e⟩)
theorem Hb{h:Heap}(x:KD):(∀{y:KD}{v u:Value},dz h x v->dz h y u->dT (A5 x) (A5 y)=decide (x=y))/\∀{y:KD}{v u:List Value},jc h x v->jc h y u->wk (xu x) (xu y)=decide (x=y):=by
 induction x with
 | i n=>exact⟨λ{y} J J J J=>by
   cases y with
   | i m=>show(n==m)=_; by_cases e:n=m<;>simp[e]
   | _=>rfl,λx=>x.elim⟩
 | s n=>exact⟨λ{y} J J J J=>by
   cases y with
   | s m=>show(n==m)=_; by_cases e:n=m<;>simp[e]
   | _=>rfl,λx=>x.elim⟩
 | nil=>exact⟨λ{y} J J J J=>by cases y<;>rfl,λ{y} J J J h'=>by
   cases y with
   | i _=>exact h'.elim
   | s _=>exact h'.elim
   | _=>rfl⟩
 | cons a b iha ihb=>
  exact⟨λ{y} J J h1 h2=>by
   cases y with
   | cons c d=>exact mL h1 λJ J J J J k1 k2=>mL h2 λJ J J J J k3 k4=>(congr (congrArg and (iha.1 k1 k3)) (ihb.2 k2 k4)).trans Bj
   | _=>rfl,λ{y} J J h1 h2=>by
   cases y with
   | cons c d=>exact bD h1 λJ J J k1 k2=>bD h2 λJ J J k3 k4=>(congr (congrArg and (iha.1 k1 k3)) (ihb.2 k2 k4)).trans Bj
   | nil=>rfl
   | _=>exact h2.elim⟩
theorem Ha{h:Heap}{x y:KD}{v u:Value}:dz h x v->dz h y u->dT (A5 x) (A5 y)=decide (x=y):=(Hb x).1
theorem EF(k:KD):(A5 k).depth<=gS false k/\tF (xu k)<=gS true k:=by
 induction k with
 | i _=>exact⟨ad _,ad _⟩
 | s _=>exact⟨ad _,ad _⟩
 | nil=>exact⟨ad _,ad _⟩
 | cons a b iha ihb=>
  have e:=Gb.mpr ⟨Z iha.1 (fJ (gS false a) (gS true b)),Z ihb.2 (gE _ _)⟩
  exact⟨cq e,e⟩
theorem Cq(k:KD):(A5 k).depth<=gS false k:=(EF k).1
theorem dz.eqBool{x y:KD}{v u:Value}{Q:Bool->Shared->Prop}(hx:dz s.heap x v)(hy:dz s.heap y u)(hu:A.units+gS false x<cLine)(h:Q (decide (x=y)) s):wpAny (model prog w) A (PySem.eqBool v u) Q E s:=by
 obtain⟨⟨as,ra⟩,ca⟩:=hx.reads
 obtain⟨⟨bs,rb⟩,cb⟩:=hy.reads
 refine eqBoolOverData prog w A E s v u _ _ as bs Q ra rb ca cb (ah (au (Z (hZ _ _) (Cq x)) _) hu) ?_
 rw[Ha hx hy]; exact h
theorem xc{a:Addr}{vs:List Value}{n:Nat}{Q:Bool->Shared->Prop}(hg:s.heap.get? a=some (aN vs))(h:Q true s)
  (loop:∀(R:Option Bool×Unit->Shared->Prop),R (none,()) s->wpAny (model prog w) A (forIn vs ((none:Option Bool),()) λy r=>do
   let b <-eqIsQuiet n y
   if (!b)=true then pure (ForInStep.done (some false,())) else pure (ForInStep.yield (none,()))) R E s):wpAny (model prog w) A (eqIsQuiet (n+1) (.ref a)) Q E s:=by
 unfold eqIsQuiet
 refine bx (λJ=>wpAny_specialOf ⟨_,hg,rfl⟩ PySem.F.slot_tuple_eq.lookup) ?_
 refine bx (λJ=>wpAny_isInstance ⟨_,hg,rfl⟩ isSubtype_tuple_tuple) ?_
 refine bx (λJ=>wpAny_seqItems hg rfl) ?_
 refine wpAny_bind ?_
 rw[<-kJ]
 exact loop _ (wpAny_pure h)
theorem yP(k:KD):(∀(v:Value)(n:Nat)(Q:Bool->Shared->Prop),dz s.heap k v->gS false k<=n->Q true s->wpAny (model prog w) A (eqIsQuiet n v) Q E s)/\
  ∀(vs:List Value)(n:Nat)(R:Option Bool×Unit->Shared->Prop),jc s.heap k vs->gS true k<=n->R (none,()) s->wpAny (model prog w) A (forIn vs ((none:Option Bool),()) λy r=>do
   let b <-eqIsQuiet n y
   if (!b)=true then pure (ForInStep.done (some false,())) else pure (ForInStep.yield (none,()))) R E s:=by
 induction k with
 | i _=>exact⟨λv n Q x J h=>ik x λt e=>by rw[e,eqIsQuiet_byValue n rfl]; exact wpAny_pure h,λJ J J x=>x.elim⟩
 | s _=>exact⟨λv n Q x J h=>ik x.2 λt e=>by rw[e,eqIsQuiet_byValue n rfl]; exact wpAny_pure h,λJ J J x=>x.elim⟩
 | nil=>exact⟨λv n Q x hn h=>aM x λa e hg=>by
   subst e
   cases n with
   | zero=>exact zn hn
   | succ n=>exact xc hg h λR hR=>wpAny_pure hR,λvs n R x J h=>by cases x; exact wpAny_pure h⟩
 | cons p q ihp ihq=>
  have lst:∀(u:Value)(r:List Value)(n:Nat)(R:Option Bool×Unit->Shared->Prop),dz s.heap p u->jc s.heap q r->max (gS false p) (gS true q)<=n->R (none,()) s->wpAny (model prog w) A (forIn (u::r) ((none:Option Bool),()) λy r=>do
   let b <-eqIsQuiet n y
   if (!b)=true then pure (ForInStep.done (some false,())) else pure (ForInStep.yield (none,()))) R E s:=λu r n R h1 h2 hn hR=>by
   rw[eK]
   refine wpAny_bind (bx (λJ=>ihp.1 u n _ h1 (Z (fJ _ _) hn)) ?_)
   exact wpAny_pure (ihq.2 r n R h2 (Z (gE _ _) hn) hR)
  exact⟨λv n Q x hn h=>mL x λc u r e hg h1 h2=>by
   subst e
   cases n with
   | zero=>exact zn hn
   | succ n=>exact xc hg h λR hR=>lst u r n R h1 h2 (fF hn) hR,λvs n R x hn h=>bD x λu r e h1 h2=>by subst e; exact lst u r n R h1 h2 hn h⟩
theorem dz.quiet(k:KD)(v:Value)(n:Nat)(Q:Bool->Shared->Prop):dz s.heap k v->gS false k<=n->Q true s->wpAny (model prog w) A (eqIsQuiet n v) Q E s:=(yP k).1 v n Q
theorem jq.keeps{h h':Heap}(k:∀a vs,h.get? a=some (aN vs)->h'.get? a=some (aN vs)){x:KD}{a:Addr}(r:jq h x a):jq h' x a:=by
 refine aM r λvs e r=>?_
 exact a0 vs (k _ _ e) (r.keeps k)
theorem uw{h h':Heap}{d:Addr}{o:Obj}(ho:h.get? d=some o)(hd:o.cls≠.type "tuple")(hs:bC d h h'):∀a vs,h.get? a=some (aN vs)->h'.get? a=some (aN vs):=λa vs e=>by
 have hne:a≠d:=by
  rintro rfl
  rw[ho] at e
  have e:=aw e
  exact hd (congrArg _ (e))
 exact(hs.2 a hne).trans e
end
noncomputable def n6(prog:Program)(w:World):HeapKind prog w KD where
 is:=λh k a=>jq h k a/\gS false k<=6
 hash:=λk=>hashW w.params (md k)
 draws:=Cr false
 room:=λA=>A.units+6<cLine
 inj:=λhx hy=>dz.inj (dz.tup hx.1) (dz.tup hy.1)
 keeps:=λ{h h' k a d o es ep} x ho hd hs=>by
  refine⟨?_,x.2⟩
  refine aM x.1 λvs e r=>?_
  have t:∀a vs,h.get? a=some (aN vs)->h'.get? a=some (aN vs):=λa vs e=>by
   have hne:a≠d:=by
    rintro rfl
    rw[ho] at e
    have e:=aw e
    rw[e] at hd; exact nomatch hd
   exact(hs.2 a hne).trans e
  exact a0 vs (t _ _ e) (r.keeps t)
 pyHash:=λ{A E s k a Q} hu hk h=>dz.hash k _ A s Q (dz.tup hk.1) (by have:=hk.2; exact ah (au this A.units) hu) h
 eqBool:=λ{A E s x y a b Q} hu hx hy h=>dz.eqBool (dz.tup hx.1) (dz.tup hy.1) (by have:=hx.2; exact ah (au this A.units) hu) h
 quiet:=λ{A E s k a Q} hk h=>dz.quiet k _ 8 Q (dz.tup hk.1) (by have:=hk.2; exact l1 0 6 0 8 this rfl) h
end
noncomputable def dO(P:Params)(kvs:List (V×V)):O:=.pk (λa vs o=>(a≠sysModules/\(kvs.map (·.1)).Nodup)/\∃es n,o=bY es n/\Bw P kvs vs es) (Lf kvs)
section
variable{C:Cx}{X:bc}{W:En}{l:Loc}{σ:aK}{Q:V->aK->Prop}
theorem bV.dAt{g:ac}{s:Shared}{i:Nat}{kvs:List (V×V)}{v:Value}(R:bV C g σ s)(hi:σ.get i=some (dO C.w.params kvs))(hv:VR g (.ref i) v) :
  ∃a es n,v=.ref a/\g a=.main i/\(a==sysModules)=false/\(kvs.map (·.1)).Nodup/\s.heap.get? a=some (bY es n)/\tI C.w.params g (lm C.w.params) kvs es:=by
 refine aM hv λa e1r t=>?_
 subst e1r
 obtain⟨b,t',vs,o,e,⟨⟨hs,hn⟩,es,n,rfl,hd⟩,r⟩:=R.objs i _ hi
 obtain rfl:=R.uniq a b i t t'
 exact m36 a es n rfl t (by simpa using hs) hn e (wN r hd)
theorem OR.dO{P:Params}{g:ac}{h:Heap}{i:Nat}{a:Addr}{kvs:List (V×V)}{es:List DictEntry}{n:Nat}(hs:a≠sysModules)(hn:(kvs.map (·.1)).Nodup)(e:h.get? a=some (bY es n))(r:tI P g (lm P) kvs es):OR P g h i a (Mine.Internal.dO P kvs):=by
 refine aM r.flat λvs hv hd=>?_
 exact bX vs _ e ⟨⟨hs,hn⟩,es,n,rfl,hd⟩ hv
noncomputable def i3{K:Type}(enc:K->V)(sk:List (K×V)):List (V×V):=sk.map λp=>(enc p.1,p.2)
def GR{K:Type}(g:ac):List (K×V)->List (K×Value)->Prop
 | [],l=>l=[]
 | (x,d)::r,l=>∃v t,l=(x,v)::t/\VR g d v/\GR g r t
variable{K:Type} [DecidableEq K]
noncomputable def dU(sk:List (K×V))(k:K)(d:V):List (K×V):=if sk.any (λkv=>kv.1=k) then sk.map (λkv=>if kv.1=k then(kv.1,d) else kv) else sk++[(k,d)]
noncomputable def eS(sk:List (K×V))(k:K):Option V:=(sk.find? λkv=>kv.1=k).map (·.2)
theorem GR.ext{g g':ac}(x:dN g g'){sk:List (K×V)}:∀{kvs:List (K×Value)},GR g sk kvs->GR g' sk kvs:=by
 induction sk with
 | nil=>exact @λJ h=>h
 | cons hd0 _ ih=>
  obtain⟨_,_⟩:=hd0
  intro _ z1
  refine bD z1 λv t e a b=>?_
  exact bX v t e (a.ext x) (ih b)
theorem GR.keys{g:ac}{sk:List (K×V)}:∀{kvs:List (K×Value)},GR g sk kvs->kvs.map (·.1)=sk.map (·.1):=by
 induction sk with
 | nil=>exact @λJ h=>by cases h; rfl
 | cons hd0 _ ih=>
  obtain⟨_,_⟩:=hd0
  intro _ z1
  refine bD z1 λJ J e J b=>?_
  exact by rw[e]; simp[ih b]
theorem GR.look{g:ac}(k:K){sk:List (K×V)}:∀{kvs:List (K×Value)},GR g sk kvs->F7 g (eS sk k) (valueAt kvs k):=by
 induction sk with
 | nil=>exact @λJ h=>by cases h; rfl
 | cons hd0 r ih=>
  obtain⟨x,d⟩:=hd0
  intro _ z1
  refine bD z1 λv t e a b=>?_
  rw[e]
  have ih:=ih b
  unfold eS valueAt at ih ⊢
  simp only[cU,cU]
  by_cases q:x=k
  ·simp only[q,decide_true]; exact a0 v rfl a
  ·simp only[q,decide_false]; exact ih
theorem GR.any{g:ac}(k:K){sk:List (K×V)}{kvs:List (K×Value)}(h:GR g sk kvs):(kvs.any λkv=>kv.1=k)=sk.any λkv=>kv.1=k:=by
 have e:=h.keys
 have h1:(kvs.any λkv=>decide (kv.1=k))=(kvs.map (·.1)).any λy=>decide (y=k):=by rw[j5]; rfl
 have h2:(sk.any λkv=>decide (kv.1=k))=(sk.map (·.1)).any λy=>decide (y=k):=by rw[j5]; rfl
 simp only[h1,h2,e]
theorem GR.mapSet{g:ac}(k:K){d:V}{v:Value}(hv:VR g d v){sk:List (K×V)}:∀{kvs:List (K×Value)},GR g sk kvs->GR g (sk.map λkv=>if kv.1=k then(kv.1,d) else kv) (kvs.map λkv=>if kv.1=k then(kv.1,v) else kv):=by
 induction sk with
 | nil=>exact @λJ h=>by cases h; rfl
 | cons hd0 r ih=>
  obtain⟨x,d'⟩:=hd0
  intro _ z1
  refine bD z1 λv' t e a b=>?_
  rw[e]
  rw[bQ,bQ]
  have ih:=ih b
  by_cases q:x=k
  ·simp only[q,if_true]; exact bX v _ rfl hv ih
  ·simp only[q,if_false]; exact bX v' _ rfl a ih
theorem GR.snoc{g:ac}{k:K}{d:V}{v:Value}(hv:VR g d v){sk:List (K×V)}:∀{kvs:List (K×Value)},GR g sk kvs->GR g (sk++[(k,d)]) (kvs++[(k,v)]):=by
 induction sk with
 | nil=>exact @λJ h=>by cases h; exact bX v [] rfl hv rfl
 | cons hd0 _ ih=>
  obtain⟨_,_⟩:=hd0
  intro _ z1
  refine bD z1 λv' t e a b=>?_
  exact by subst e; exact bX v' (t++[(k,v)]) rfl a (ih b)
theorem GR.stored{g:ac}{k:K}{d:V}{v:Value}(hv:VR g d v){sk:List (K×V)}{kvs:List (K×Value)}(h:GR g sk kvs):GR g (dU sk k d) (PySem.stored kvs k v):=by
 delta dU PySem.stored
 rw[h.any k]
 split
 ·exact h.mapSet k hv
 ·exact h.snoc hv
structure l0(prog:Program)(w:World)(knd:KeyKind prog w K)(enc:K->V):Prop where
 is_of:∀{g k v},VR g (enc k) v->knd.is k v=true
 of_is:∀{g k v},knd.is k v=true->VR g (enc k) v
 hash:∀k,lm w.params (enc k)=knd.hash k
 inj:∀{a b},enc a=enc b->a=b
theorem encStr(prog:Program)(w:World):l0 prog w (PySem.strKind prog w) V.str:=⟨λhq=>ik hq λt e=>e▸iz _ t,λ{g k v} h=>by
 refine ik (ot h) λtk hk=>?_
 exact⟨tk,hk⟩,λJ=>rfl,λe=>by cases e; rfl⟩
theorem encInt(prog:Program)(w:World):l0 prog w (PySem.intKind prog w) V.int:=⟨λhq=>ik hq λt e=>e▸intKind_is _ _ _ t,λ{g k v} h=>F4 h,λk=>hashW_int w.params k,λe=>by cases e; rfl⟩
variable{prog:Program}{w:World}{knd:KeyKind prog w K}{enc:K->V}
theorem Ek{g:ac}(eo:l0 prog w knd enc){sk:List (K×V)}:∀{es:List DictEntry},tI w.params g (lm w.params) (i3 enc sk) es->∃kvs,Pairs knd es kvs/\GR g sk kvs/\∀e∈es,∃k,knd.is k e.key=true/\e.hash=knd.hash k:=by
 induction sk with
 | nil=>
  intro es h
  subst h
  exact lz [] .nil rfl (λe he=>nomatch he)
 | cons hd0 r ih=>
  obtain⟨x,d⟩:=hd0
  intro es h
  obtain⟨e,t,rfl,⟨h1,h2,h3⟩,hr⟩:=h
  refine lL (ih hr) λkvs p q k=>?_
  have his:knd.is x e.key=true:=eo.is_of h2
  refine lz ((x,e.val)::kvs) (.cons his rfl p) ⟨e.val,kvs,rfl,h3,q⟩ (λe' he'=>?_)
  rcases aE.mp he' with rfl | he'
  ·exact a0 x his (h1.trans (eo.hash x))
  ·exact k e' he'
theorem Fw{g:ac}(eo:l0 prog w knd enc){sk:List (K×V)}:∀{es:List DictEntry}{kvs:List (K×Value)},Pairs knd es kvs->GR g sk kvs->(∀e∈es,∃k,knd.is k e.key=true/\e.hash=knd.hash k)->tI w.params g (lm w.params) (i3 enc sk) es:=by
 induction sk with
 | nil=>
  intro es kvs p q k
  subst q; cases p; rfl
 | cons hd0 r ih=>
  obtain⟨x,d⟩:=hd0
  intro es kvs p q k
  refine bD q λv t e2r hv hr=>?_
  subst e2r
  cases p with
  | @cons e _ es' _ h1 h2 p'=>
   refine aM (k e (.head _)) λk' hk' hh=>?_
   have:k'=x:=knd.inj _ _ _ hk' h1
   subst this
   exact bX e es' rfl ⟨hh.trans (eo.hash k').symm,eo.of_is h1,by rw[h2]; exact hv⟩ (ih p' hr λe' he'=>k e' (.tail _ he'))
theorem nY(hi:∀{a b:K},enc a=enc b->a=b){sk:List (K×V)}:((i3 enc sk).map (·.1)).Nodup↔(sk.map (·.1)).Nodup:=by
 unfold i3
 rw[ef,show((λx:V×V=>x.1) ∘ λp:K×V=>(enc p.1,p.2))=enc ∘ (λp:K×V=>p.1) from rfl,<-ef]
 exact⟨λh=>List.Pairwise.of_map enc (λa b h e=>h (e▸rfl)) h,λh=>h.map enc λa b h e=>h (hi e)⟩
end
section
variable{C:Cx}{X:bc}{W:En}{l:Loc}{σ:aK}{Q:V->aK->Prop}{K:Type} [DecidableEq K]{knd:KeyKind C.prog C.w K}{enc:K->V}
theorem bV.dictK{g:ac}{s:Shared}{i:Nat}{sk:List (K×V)}{v:Value}(eo:l0 C.prog C.w knd enc)(R:bV C g σ s)(hi:σ.get i=some (dO C.w.params (i3 enc sk)))(hv:VR g (.ref i) v) :
  ∃a kvs,v=.ref a/\g a=.main i/\(a==sysModules)=false/\s.heap.DictOf knd a kvs/\GR g sk kvs:=by
 refine Jg (R.dAt hi hv) λa es n e3r t hs hn e r=>?_
 subst e3r
 refine lL (Ek (prog:=C.prog) eo r) λkvs p q k=>?_
 exact G3 a kvs rfl t hs ⟨_,es.toArray,n,e,⟨rfl,rfl,rfl⟩,rfl,λe' he'=>k e' (by simpa using he'),by simpa using p,by rw[q.keys]; exact(nY eo.inj).mp hn⟩ q
theorem bV.setDictK{g:ac}{s:Shared}{h':Heap}{tk:Nat}{i:Nat}{a:Addr}{sk:List (K×V)}{kvs:List (K×Value)}(eo:l0 C.prog C.w knd enc)(R:bV C g σ s)(t:g a=.main i)(hn:(a==sysModules)=false)(hd:h'.DictOf knd a kvs)(hr:GR g sk kvs)(hs:∀b o,b≠a->s.heap.get? b=some o->h'.get? b=some o):bV C g (σ.set i (dO C.w.params (i3 enc sk))) { s with heap:=h',toks:=tk }:=by
 obtain⟨⟨oc,od,oda,osl⟩,es,ep,ho,⟨h1,h2,h3⟩,Cw,hk,hp,hnd⟩:=hd
 simp only at h1 h2 h3 Cw
 subst h1; subst h2; subst h3; subst Cw
 have ho':h'.get? a=some (bY es.toList ep):=by rw[ho]
 exact R.upd (o:=dO C.w.params (i3 enc sk)) t (.inl rfl) hs ⟨_,ho'⟩ (OR.dO (by simpa using hn) ((nY eo.inj).mpr (by rw[<-hr.keys]; exact hnd)) ho' (Fw eo hp hr λe he=>hk e (by simpa using he)))
theorem ky{g:ac}{s:Shared}{h':Heap}{tk:Nat}{a:Addr}{sk:List (K×V)}{kvs:List (K×Value)}(eo:l0 C.prog C.w knd enc)(R:bV C g σ s)(ha:g a=.free)(ha0:C.H0.get? a=none)(hn:a≠sysModules)(hd:h'.DictOf knd a kvs)(hr:GR g sk kvs)(hs:∀b o,b≠a->s.heap.get? b=some o->h'.get? b=some o)
  (q:Q (.ref σ.nx) (σ.push (dO C.w.params (i3 enc sk)))):Up C g Q (.ref a) { s with heap:=h',toks:=tk }:=by
 obtain⟨⟨oc,od,oda,osl⟩,es,ep,ho,⟨h1,h2,h3⟩,Cw,hk,hp,hnd⟩:=hd
 simp only at h1 h2 h3 Cw
 subst h1; subst h2; subst h3; subst Cw
 have ho':h'.get? a=some (bY es.toList ep):=by rw[ho]
 have x:dA g (g.put a (.main σ.nx)):=dA.put ha _
 have R':bV C g σ { s with heap:=h',toks:=tk }:=R.keepsT λb o hb e=>hs b o (λq=>by
  cases q; rcases hb with hb | hb
  ·exact hb ha
  ·exact hb ha0) e
 exact⟨.ref σ.nx,_,_,x,R'.newMain (o:=dO C.w.params (i3 enc sk)) ha ha0 (OR.dO hn ((nY eo.inj).mpr (by rw[<-hr.keys]; exact hnd)) ho' (Fw eo hp (hr.ext x.v) λe he=>hk e (by simpa using he))) ⟨_,ho'⟩,(a0 _ rfl (aC ..)),q⟩
theorem SI.dictK{i:Nat}{sk:List (K×V)}{k:K}{d:V}(eo:l0 C.prog C.w knd enc)(hi:σ.get i=some (dO C.w.params (i3 enc sk)))(hx:eS sk k=some d)(h:Q d σ):SI C X W σ (.ref i) (enc k) Q:=by
 rintro g A L s ov iv R hA ho hiv
 refine wq (R.dictK eo hi ho) λa kvs e2r ta ns hd hr=>?_
 subst e2r
 have hl:=hr.look k
 rw[hx] at hl
 refine aM hl λv hv rv=>?_
 refine bX ("dict") _ slot_dict_getitem.lookup hd.typeIs (wpAny_getItem_of (knd:=knd) (k:=k) (eo.is_of hiv) hd.mapOf hv (Up.here (R.toks _) rv h))
theorem qt{i:Nat}{sk:List (K×V)}{k:K}{d:V}(eo:l0 C.prog C.w knd enc)(hi:σ.get i=some (dO C.w.params (i3 enc sk)))(h:Q ((eS sk k).getD d) σ):SC C X W σ (.val (.builtin "dict.get")) [.ref i,enc k,d] Q:=by
 rintro g A L s _ _ R hA rfl ⟨v,_,rfl,hv,kv,_,rfl,hk,u,_,rfl,hu,rfl⟩
 refine wq (R.dictK eo hi hv) λa kvs e2r ta ns hd hr=>?_
 subst e2r
 refine call_meetsIn PySem.F.slot_dict_get hd.typeIs PySem.F.entry_dict_get (PySem.F.args_dict_get_3 _ _ _) (meets_dict_get_default knd a (k:=k) (eo.is_of hk) ns u) (a0 _ hd.mapOf ?_)
 have hl:=hr.look k
 refine Up.here (d:=(eS sk k).getD d) (R.toks _) ?_ h
 cases hq:eS sk k with
 | none=>rw[hq] at hl; have hl:valueAt kvs k=none:=hl; rw[hl]; exact hu
 | some d'=>rw[hq] at hl; refine aM hl λv' e r=>?_; rw[e]; exact r
theorem SM.dictO{i:Nat}{kvs:List (V×V)}{name:Str}{id:String}{QM:V->List V->aK->Prop}(hi:σ.get i=some (dO C.w.params kvs))(slot:Slot "dict" name id)(hty:typeOf (.builtin id)=pure (.type "method_descriptor"))(h:QM (.val (.builtin id)) [.ref i] σ):SM C X W σ (.ref i) name QM:=λg A L s ov pl R hA hv=>by
 refine Jg (R.dAt hi hv) λa es n e3r t J J e r=>?_
 subst e3r
 exact getMethod_builtin (a0 _ e rfl) PySem.F.plainAttrs_dict slot hty (λb hb=>by cases hb; exact a0 _ e rfl) ⟨.val (.builtin id),[.ref i],g,σ,dA.refl g,R,rfl,(bX _ [] rfl hv rfl),h⟩
theorem SE.dictE{pos:PySem.Pos}(h:Q (.ref σ.nx) (σ.push (dO C.w.params []))):SE C X W (.Dict [] [] pos) l σ Q:=λg A cenv L m s p=>by
 refine wpAny_Dict_empty ?_
 exact ky (knd:=PySem.strKind C.prog C.w) (sk:=[]) (tk:=s.toks) (encStr _ _) p.R (p.R.free_size (ad _)) (p.R.h0_size (ad _)) (p.R.big (ad _)) (AJ _) rfl (λb o J e=>ab _ e) h
variable{QA:Loc->aK->Prop}
def SU(C:Cx)(X:bc)(W:En)(σ:aK)(o i d:V)(Q:aK->Prop):Prop:=
 ∀g A L s ov iv v,bV C g σ s->Ar g W.d W.calm A->VR g o ov->VR g i iv->VR g d v->wpAny C.M A (setItem ov iv v) (λJ s'=>∃g' σ',dA g g'/\bV C g' σ' s'/\Q σ') (X.P L g A.frames) s
theorem SG.sub{o sl:Expr}{pos:PySem.Pos}{d:V}(h:SE C X W o l σ λod aA=>SE C X W sl l aA λid aT=>SU C X W aT od id d λez=>QA l ez):SG C X W (.Subscript o sl pos) l σ d QA:=λg A cenv L m s v p hv=>by
 refine wpAny_bind (wpAny_holding (wpAny_mono (h g A cenv L m s p) ?_ λJ J h=>h))
 rintro ov aQ ⟨od,cj,aA,bH,b7,ho,q⟩
 have cf:=p.step bH b7
 refine wpAny_bind (wpAny_holding (wpAny_mono (q cj A cenv L m aQ cf) ?_ λJ J h=>X.mono bH h))
 rintro iv b8 ⟨id,dR,aT,eN,dM,hi,mh⟩
 have nw:=cf.step eN dM
 refine wpAny_bind (wpAny_standAt (wpAny_bind (wpAny_holding (wpAny_mono (mh dR A L b8 ov iv v dM nw.A (ho.ext eN.v) hi (hv.ext (bH.trans eN).v)) ?_ λJ J h=>X.mono (bH.trans eN) h))))
 intro _ uW hq
 refine bD hq λrR ez ml k0 tP=>?_
 have nP:=nw.step ml k0
 exact wpAny_release ⟨l,rR,ez,m,((bH.trans eN).trans ml).l L,k0,nP.fm,nP.fl,tP⟩
theorem SU.dictK{i:Nat}{sk:List (K×V)}{k:K}{d:V}{QU:aK->Prop}(eo:l0 C.prog C.w knd enc)(hi:σ.get i=some (dO C.w.params (i3 enc sk)))(hz:sk.length<=1000000)(h:QU (σ.set i (dO C.w.params (i3 enc (dU sk k d))))):SU C X W σ (.ref i) (enc k) d QU:=by
 rintro g A L s ov iv v R hA ho hk hv
 refine wq (R.dictK eo hi ho) λa kvs e2r ta ns hd hr=>?_
 subst e2r
 have hlen:kvs.length<=sizeLine:=by
  have:=congrArg oo hr.keys
  rw[ar,ar] at this
  rw[this,sizeLine_eq]; exact l1 0 1000000 0 16777216 hz rfl
 exact wpAny_setItem_pairs (knd:=knd) (k:=k) (eo.is_of hk) hd (λh' hd' hs'=>(bX g _ (dA.refl g) (R.setDictK eo ta ns hd' (hr.stored hv) (λb o hb e=>(hs'.2 b hb).trans e)) h)) hlen
end
def RK{α:Type}(lt:Nat->Nat->Bool)(n:Nat):KasT α->(α->Prop)->Prop
 | .ret a,Q=>Q a
 | .ask i j k,Q=>(i<n/\j<n)/\RK lt n (k (lt i j)) Q
theorem RK.bind{α β:Type}{lt:Nat->Nat->Bool}{n:Nat}{f:α->KasT β}{Q:β->Prop}:∀{t:KasT α},RK lt n t (λa=>RK lt n (f a) Q)->RK lt n (t.bind f) Q
 | .ret _,h=>h
 | .ask _ _ k,h=>⟨h.1,RK.bind (t:=k _) h.2⟩
structure tw(lt:Nat->Nat->Bool)(n:Nat):Prop where
 tot:∀i j,i<n->j<n->i≠j->lt i j=!lt j i
 trans:∀i j k,lt i j=true->lt j k=true->lt i k=true
structure jb(n:Nat)(p:Array Nat):Prop where
 perm:p.toList.Perm (dh n)
theorem jb.size{n:Nat}{p:Array Nat}(h:jb n p):p.size=n:=by
 have:=h.perm.length_eq
 rwa [eO,aP] at this
theorem jb.lt{n:Nat}{p:Array Nat}(h:jb n p){i:Nat}(hi:i<n):p.getD i 0<n:=by
 have hs:i<p.size:=by rw[h.size]; exact hi
 have:p.getD i 0=p[i]:=by simp[cC,hs]
 rw[this]
 have hm:p[i]∈p.toList:=by simp
 exact bz.mp (h.perm.mem_iff.mp hm)
theorem jb.inj{n:Nat}{p:Array Nat}(h:jb n p){i j:Nat}(hi:i<n)(hj:j<n)(e:p.getD i 0=p.getD j 0):i=j:=by
 have hs:i<p.size:=by rw[h.size]; exact hi
 have hs':j<p.size:=by rw[h.size]; exact hj
 have e1:p.getD i 0=p.toList[i]:=by simp[cC,hs]
 have e2:p.getD j 0=p.toList[j]:=by simp[cC,hs']
 have hn:p.toList.Nodup:=h.perm.nodup_iff.mpr tG
 rw[e1,e2] at e
 exact(HR hn).mp e
def yd(lt:Nat->Nat->Bool)(p:Array Nat)(k:Nat):Prop:=∀i j,i<j->j<k->lt (p.getD i 0) (p.getD j 0)=true
section
variable{lt:Nat->Nat->Bool}{n:Nat}{p:Array Nat}
theorem yd.succ(h:tw lt n){k:Nat}(hu:yd lt p k)(hl:lt (p.getD (k - 1) 0) (p.getD k 0)=true):yd lt p (k+1):=λi j hij hj=>by
 by_cases e:j=k
 ·subst e
  by_cases e2:i=j - 1
  ·subst e2; exact hl
  ·exact h.trans _ _ _ (hu i (j - 1) (aG (aW hij) e2) (bG hij)) hl
 ·exact hu i j hij (aG (av hj) e)
theorem DH(h:tw lt n)(hp:jb n p):∀(f k:Nat){Q:Nat->Prop},1<=k->k+f<=n->yd lt p k->(∀m,k<=m->m<=k+f->yd lt p m->(m<k+f->lt (p.getD m 0) (p.getD (m - 1) 0)=true)->Q m)->RK lt n (kas_asc p f k) Q:=by
 intro f
 induction f with
 | zero=>
  intro k Q _ _ hu hQ
  exact hQ k (ad _) (ad _) hu λx=>absurd x (by exact zi ‹_›)
 | succ f ih=>
  intro k Q h1 hk hu hQ
  have kn:k<n:=af (cZ (cH f)) hk
  have kp:k - 1<n:=ah (f9 k 1) kn
  refine⟨⟨hp.lt kn,hp.lt kp⟩,?_⟩
  cases e:lt (p.getD k 0) (p.getD (k - 1) 0) with
  | true=>exact hQ k (ad _) (by exact bg _ _) hu λJ=>e
  | false=>
   have hne:p.getD k 0≠p.getD (k - 1) 0:=λq=>bP (bG h1) (hp.inj kn kp q)
   have e2:=h.tot _ _ (hp.lt kn) (hp.lt kp) hne
   rw[e] at e2
   have e3:lt (p.getD (k - 1) 0) (p.getD k 0)=true:=by simpa using e2.symm
   exact ih (k+1) (by exact cH _) (Z (am (aV k f)) hk) (hu.succ h e3) λm a b c d=>hQ m (by exact cJ ‹_›) (Z b (am (aV k f))) c λx=>d (aL x (aV k f).symm)
def JY(lt:Nat->Nat->Bool)(p:Array Nat)(k:Nat):Prop:=∀i j,i<j->j<k->lt (p.getD j 0) (p.getD i 0)=true
theorem JY.succ(h:tw lt n){k:Nat}(hu:JY lt p k)(hl:lt (p.getD k 0) (p.getD (k - 1) 0)=true):JY lt p (k+1):=λi j hij hj=>by
 by_cases e:j=k
 ·subst e
  by_cases e2:i=j - 1
  ·subst e2; exact hl
  ·exact h.trans _ _ _ hl (hu i (j - 1) (aG (aW hij) e2) (bG hij))
 ·exact hu i j hij (aG (av hj) e)
theorem Gs(h:tw lt n)(hp:jb n p):∀(f k:Nat){Q:Array Nat×Nat×Nat->Prop},1<=k->k+f<=n->JY lt p k->(∀m,k<=m->m<=k+f->JY lt p m->Q (p,m,0))->RK lt n (kas_desc f p k 0) Q:=by
 intro f
 induction f with
 | zero=>
  intro k Q _ _ hu hQ
  exact hQ k (ad _) (ad _) hu
 | succ f ih=>
  intro k Q h1 hk hu hQ
  have kn:k<n:=af (cZ (cH f)) hk
  have kp:k - 1<n:=ah (f9 k 1) kn
  refine⟨⟨hp.lt kn,hp.lt kp⟩,?_⟩
  have hne:p.getD k 0≠p.getD (k - 1) 0:=λq=>bP (bG h1) (hp.inj kn kp q)
  have e2:=h.tot _ _ (hp.lt kn) (hp.lt kp) hne
  cases e:lt (p.getD k 0) (p.getD (k - 1) 0) with
  | true=>
   dsimp only[]
   exact ih (k+1) (by exact cH _) (Z (am (aV k f)) hk) (hu.succ h e) λm a b=>hQ m (by exact cJ ‹_›) (Z b (am (aV k f)))
  | false=>
   rw[e] at e2
   have e3:lt (p.getD (k - 1) 0) (p.getD k 0)=true:=by simpa using e2.symm
   dsimp only[]
   refine⟨⟨hp.lt kp,hp.lt kn⟩,?_⟩
   rw[e3]
   dsimp only[]
   exact hQ k (ad _) (by exact bg _ _) hu
theorem w8(hp:jb n p)(i j:Nat):jb n (kas_rev p i j):=⟨(uS.mp (mirror_perm p i j _)).trans hp.perm⟩
theorem jM{p q:Array Nat}{i j:Nat}(h:p[i]?=q[j]?):p.getD i 0=q.getD j 0:=by
 simp only[aX,aX,h]
theorem I7(hp:jb n p){k:Nat}(hk:k<=n)(hu:JY lt p k):yd lt (kas_rev p 0 k) k:=λi j hij hj=>by
 have e1:=jM ((getElem?_mirror_all (i:=0) (j:=k) (xs:=p) ((hp.size)▸hk) i).trans (if_pos ⟨aH _,by exact cI ‹_› ‹_›⟩))
 have e2:=jM ((getElem?_mirror_all (i:=0) (j:=k) (xs:=p) ((hp.size)▸hk) j).trans (if_pos ⟨aH _,by assumption⟩))
 unfold kas_rev
 simp only[e1,e2]
 exact hu _ _ (Nat.sub_lt_sub_left (af hij (aW (aL hj (el k).symm))) hij) (ah (f9 _ _) (aL (bG (aL hj (el k).symm)) (el k)))
theorem DG(h:tw lt n)(hp:jb n p){k:Nat}{Q:Nat×Array Nat->Prop}(h1:1<=k)(hk:k<=n)(hu:JY lt p k)(hQ:∀m q,1<=m->m<=n->jb n q->yd lt q m->Q (m,q)):RK lt n (kas_tail3 k n p) Q:=
 RK.bind (DH h (w8 hp 0 k) (n - k) k h1 (by simp_all) (I7 hp hk hu) λm a b c J=>hQ m _ (by exact af ‹_› ‹_›) (by simp_all) (w8 hp 0 k) c)
theorem RK.count(h:tw lt n)(hp:jb n p)(h2:2<=n){Q:Nat×Array Nat->Prop}(hQ:∀m q,1<=m->m<=n->jb n q->yd lt q m->Q (m,q)):RK lt n (kas_count n p) Q:=by
 have e12:1+(n - 1)=n:=fg (dj h2)
 refine RK.bind (DH h hp (n - 1) 1 (ad _) (am e12) (λi j a b=>absurd (af a (av b)) (cF _)) λm hm hm' hu hl=>?_)
 by_cases e:(m==n)=true
 ·rw[if_pos e]; exact hQ m p hm (am (eq_of_beq e)) hp hu
 ·rw[if_neg e]
  have hlt:m<n:=aG (Z hm' (am e12)) λq=>e (beq_iff_eq.mpr q)
  by_cases e1:m>1
  ·rw[if_pos e1]
   refine⟨⟨hp.lt (by exact cJ ‹_›),hp.lt (ah (f9 m 1) hlt)⟩,?_⟩
   rw[hu 0 (m - 1) (by exact HK ‹_›) (bG hm)]
   dsimp only[]
   exact hQ m p hm (by exact cJ ‹_›) hp hu
  ·rw[if_neg e1]
   have:m=1:=ck (aF e1) hm
   subst this
   refine RK.bind (Gs h hp (n - 2) 2 (by exact cr _) (am (fg h2)) ?_ λk a b c=>?_)
   ·intro i j hij hj
    have:i=0:=by exact ck (lc 1 0 0 1 0 0 hij (l1 1 2 0 1 hj rfl) rfl) (Z (N rfl:0<=0) (ie _ _))
    have:j=1:=by exact ck (l1 1 2 0 1 hj rfl) (lc 0 0 1 0 1 0 (am this.symm) hij rfl)
    subst_vars
    exact hl (aL h2 e12.symm)
   ·rw[if_neg (by exact bv ‹_›)]
    exact DG h hp (by exact cJ ‹_›) (Z b (am (fg h2))) c hQ
theorem RK.place(h:tw lt n)(hp:jb n p){k:Nat}(hk:k<n)(hu:yd lt p k):∀(f l r:Nat){Q:Nat->Prop},l<=r->r<=k->r - l<=f->(∀i,i<l->lt (p.getD i 0) (p.getD k 0)=true)->(∀i,r<=i->i<k->lt (p.getD k 0) (p.getD i 0)=true)->
  (∀m,m<=k->(∀i,i<m->lt (p.getD i 0) (p.getD k 0)=true)->(∀i,m<=i->i<k->lt (p.getD k 0) (p.getD i 0)=true)->Q m)->RK lt n (kas_place p k f l r) Q:=by
 intro f
 induction f with
 | zero=>
  intro l r Q hlr hrk hf ha hb hQ
  exact hQ l (by exact Z ‹_› ‹_›) ha λi x y=>hb i (Z (cu (Dd.mp hf)) x) y
 | succ f ih=>
  intro l r Q hlr hrk hf ha hb hQ
  show RK lt n (if l≥r then _ else _) Q
  by_cases e:l≥r
  ·rw[if_pos e]; exact hQ l (by exact Z ‹_› ‹_›) ha λi x y=>hb i (by exact Z ‹_› ‹_›) y
  ·rw[if_neg e]
   have hm:(l+r) / 2<r:=Df (by rw[Da]; exact oy (dJ e) r)
   have hmn:(l+r) / 2<n:=cI (af hm hrk) hk
   have hlm:l<=(l+r) / 2:=(C3 jv).mpr (by rw[Nat.mul_two]; exact au hlr l)
   refine⟨⟨hp.lt hk,hp.lt hmn⟩,?_⟩
   have hne:p.getD k 0≠p.getD ((l+r) / 2) 0:=λq=>by have:=hp.inj hk hmn q; exact bv (lc 0 0 1 0 1 0 (am this) hm rfl) hrk
   have e2:=h.tot _ _ (hp.lt hk) (hp.lt hmn) hne
   cases e1:lt (p.getD k 0) (p.getD ((l+r) / 2) 0) with
   | true=>
    dsimp only[]
    refine ih l ((l+r) / 2) hlm (by exact lc 1 0 0 0 0 0 hm hrk rfl) (av (af (f8 hlm hm) hf)) ha (λi x y=>?_) hQ
    by_cases q:i=(l+r) / 2
    ·subst q; exact e1
    ·exact h.trans _ _ _ e1 (hu _ i (aG x (bA q)) y)
   | false=>
    dsimp only[]
    rw[e1] at e2
    have e3:lt (p.getD ((l+r) / 2) 0) (p.getD k 0)=true:=by simpa using e2.symm
    refine ih ((l+r) / 2+1) r (by assumption) hrk (jw (Z (De hf) (Z (au hlm (f+1)) (am (aV f _))))) (λi x=>?_) hb hQ
    by_cases q:i=(l+r) / 2
    ·subst q; exact e3
    ·exact h.trans _ _ _ (hu i _ (aG (av x) q) (af hm hrk)) e3
theorem xZ(hp:jb n p)(k d:Nat):jb n (bubble p k d):=⟨(uS.mp (bubble_perm p k d)).trans hp.perm⟩
theorem CU(h:tw lt n)(hp:jb n p){k m:Nat}(hk:k<n)(hm:m<=k)(hu:yd lt p k)(ha:∀i,i<m->lt (p.getD i 0) (p.getD k 0)=true)(hb:∀i,m<=i->i<k->lt (p.getD k 0) (p.getD i 0)=true):yd lt (bubble p k (k - m)) (k+1):=by
 have at':∀i,(bubble p k (k - m)).getD i 0=if i=m then p.getD k 0 else if m<i/\i<=k then p.getD (i - 1) 0 else p.getD i 0:=λi=>by
  have e:=getElem?_bubble (xs:=p) (src:=k) (by rw[hp.size]; exact hk) (k - m) (by exact f9 _ _) i
  rw[Nat.sub_sub_self hm] at e
  by_cases h1:i=m
  ·rw[if_pos h1] at e ⊢; exact jM e
  ·rw[if_neg h1] at e ⊢
   by_cases h2:m<i/\i<=k
   ·rw[if_pos h2] at e ⊢; exact jM e
   ·rw[if_neg h2] at e ⊢; exact jM e
 intro i j hij hj
 simp only[at' i,at' j]
 by_cases j1:j=m
 ·rw[if_neg (show i≠m by exact aB (lc 1 0 0 0 1 0 hij (am j1) rfl)),if_neg (show ¬(m<i/\i<=k) from λq=>BA q.1 (aL hij j1)),if_pos j1]
  exact ha i (by exact aL ‹_› ‹_›)
 ·rw[if_neg j1]
  by_cases j2:m<j/\j<=k
  ·rw[if_pos j2]
   by_cases i1:i=m
   ·rw[if_pos i1]; exact hb (j - 1) (aW j2.1) (af (bG j2.1) j2.2)
   ·rw[if_neg i1]
    by_cases i2:m<i/\i<=k
    ·rw[if_pos i2]; exact hu (i - 1) (j - 1) (f8 (lQ (ah (aH _) i2.1)) hij) (af (bG j2.1) j2.2)
    ·rw[if_neg i2]; exact hu i (j - 1) (af (aG (aF λq=>i2 ⟨q,Z (cJ hij) j2.2⟩) i1) (aW j2.1)) (af (bG j2.1) j2.2)
  ·have jm:j<m:=aG (aF λq=>j2 ⟨q,av hj⟩) j1
   rw[if_neg j2,if_neg (aB (cI hij jm)),if_neg (show ¬(m<i/\i<=k) from λq=>BA q.1 (cI hij jm))]
   exact hu i j hij (af jm hm)
theorem RK.bin(h:tw lt n):∀(f:Nat){p:Array Nat}{k:Nat}{Q:Array Nat->Prop},jb n p->1<=k->k+f=n->yd lt p k->(∀q,jb n q->yd lt q n->Q q)->RK lt n (kas_bin f p k) Q:=by
 intro f
 induction f with
 | zero=>
  intro p k Q hp _ hk hu hQ
  exact hQ p hp (hk▸hu)
 | succ f ih=>
  intro p k Q hp h1 hk hu hQ
  have kn:k<n:=aL (cZ (cH f)) hk
  refine RK.bind (RK.place h hp kn hu k 0 k (aH _) (ad _) (by exact ad _) (λi x=>absurd x (by exact zn ‹_›)) (λi x y=>absurd x (by exact bv ‹_›)) λm hm ha hb=>?_)
  exact ih (xZ hp k _) (by exact cH _) ((aV k f).trans hk) (CU h hp kn hm hu ha hb) hQ
theorem Gr(h:tw lt n)(h2:2<=n){Q:Array Nat->Prop}(hQ:∀q,jb n q->yd lt q n->Q q):RK lt n (kas_sort n) Q:=by
 refine RK.bind (RK.count h ⟨by simp⟩ h2 λm q h1 hm hq hu=>?_)
 by_cases e:m<n
 ·show RK lt n (if m<n then _ else _) Q
  rw[if_pos e]
  have:max m 1=m:=by simp_all
  rw[this]
  exact RK.bin h (n - m) hq h1 (by simp_all) hu hQ
 ·show RK lt n (if m<n then _ else _) Q
  rw[if_neg e]
  have:m=n:=by exact ck hm (aF e)
  subst this
  exact hQ q hq hu
end
theorem Ia{α:Type}{lt:Nat->Nat->Bool}{n:Nat}{cmp:Nat->Nat->(Bool->Shared->Prop)->Shared->Prop}{Q:α->Shared->Prop}{s:Shared}(hc:∀i j C,i<n->j<n->C (lt i j) s->cmp i j C s):∀{t:KasT α},RK lt n t (λa=>Q a s)->t.kasWp cmp Q s
 | .ret _,h=>h
 | .ask i j k,h=>hc i j _ h.1.1 h.1.2 (Ia hc (t:=k _) h.2)
noncomputable def jt(m:Bool)(x y:KD):Option Bool:=
 KD.rec (motive:=λJ=>Bool->KD->Option Bool)
  (λn m y=>Bool.rec (motive:=λJ=>Option Bool) (KD.rec (motive:=λJ=>Option Bool) (λk=>some (decide (n<k))) (λJ=>none) none (λJ J J J=>none) y) none m)
  (λn m y=>Bool.rec (motive:=λJ=>Option Bool) (KD.rec (motive:=λJ=>Option Bool) (λJ=>none) (λk=>some (decide (n.cps.toList<k.cps.toList))) none (λJ J J J=>none) y) none m)
  (λJ y=>KD.rec (motive:=λJ=>Option Bool) (λJ=>none) (λJ=>none) (some false) (λJ J J J=>some true) y)
  (λa J ia ib J y=>KD.rec (motive:=λJ=>Option Bool) (λJ=>none) (λJ=>none) (some false) (λc d J J=>if a=c then ib true d else ia false c) y) x m y
theorem nN{c:Prop}{b:Bool}(h:(none:Option Bool)=some b):c:=by cases h
theorem nS{c:Prop}(h:some false=some true):c:=nt (aw h)
theorem sM(m:Bool)(x:KD):jt m x x≠some true:=by
 induction x generalizing m with
 | i n=>cases m with
  | true=>exact λh=>nN h
  | false=>exact λh=>Int.lt_irrefl n (of_decide_eq_true (aw h))
 | s x=>cases m with
  | true=>exact λh=>nN h
  | false=>exact λh=>iD _ (of_decide_eq_true (aw h))
 | nil=>exact λh=>nS h
 | cons a b _ ih=>exact λh=>ih true ((if_pos rfl).symm.trans h)
theorem GJ{x y:Str}(h:x≠y)(h':¬x.cps.toList<y.cps.toList):y.cps.toList<x.cps.toList:=by
 have hne:x.cps.toList≠y.cps.toList:=λe=>h (Str.ext' (Gf.mp e))
 have h1:y.cps.toList<=x.cps.toList:=List.not_lt.mp h'
 rcases List.le_iff_lt_or_eq.mp h1 with h2 | h2
 ·exact h2
 ·exact absurd h2.symm hne
theorem sN:∀(m:Bool)(x y:KD)(b:Bool),x≠y->jt m x y=some b->jt m y x=some (!b):=by
 intro m x
 induction x generalizing m with
 | i n=>
  intro y b hn h
  cases m with
  | true=>exact nN h
  | false=>cases y with
   | i k=>
    have hne:n≠k:=λe=>hn (congrArg _ e)
    rw[<-aw h,<-decide_not]
    exact congrArg some (decide_eq_decide.mpr ⟨λq=>ey.mpr (nu q),λq=>Int.lt_iff_le_and_ne.mpr ⟨ey.mp q,bA hne⟩⟩)
   | _=>exact nN h
 | s x=>
  intro y b hn h
  cases m with
  | true=>exact nN h
  | false=>cases y with
   | s y=>
    rw[<-aw h,<-decide_not]
    exact congrArg some (decide_eq_decide.mpr ⟨λq q'=>iD _ (yo q q'),λq=>GJ (λe=>hn (congrArg _ e)) q⟩)
   | _=>exact nN h
 | nil=>
  intro y b hn h
  cases y with
  | nil=>exact absurd rfl hn
  | cons c d=>exact congrArg (λb=>some !b) (aw h)
  | _=>exact nN h
 | cons a r iha ihr=>
  intro y b hn h
  cases y with
  | nil=>exact congrArg (λb=>some !b) (aw h)
  | cons c d=>
   by_cases e:a=c
   ·exact(if_pos e.symm).trans (ihr true d b (λq=>hn (e▸q▸rfl)) ((if_pos e).symm.trans h))
   ·exact(if_neg (bA e)).trans (iha false c b e ((if_neg e).symm.trans h))
  | _=>exact nN h
theorem nh:∀(m:Bool)(x y z:KD),jt m x y=some true->jt m y z=some true->jt m x z=some true:=by
 intro m x
 induction x generalizing m with
 | i n=>
  intro y z h h'
  cases m with
  | true=>exact nN h
  | false=>cases y with
   | i k=>cases z with
    | i j=>exact congrArg some (decide_eq_true (rP (of_decide_eq_true (aw h)) (of_decide_eq_true (aw h'))))
    | _=>exact nN h'
   | _=>exact nN h
 | s n=>
  intro y z h h'
  cases m with
  | true=>exact nN h
  | false=>cases y with
   | s k=>cases z with
    | s j=>exact congrArg some (decide_eq_true (yo (of_decide_eq_true (aw h)) (of_decide_eq_true (aw h'))))
    | _=>exact nN h'
   | _=>exact nN h
 | nil=>
  intro y z h h'
  cases y with
  | nil=>exact nS h
  | cons c d=>cases z with
   | nil=>exact nS h'
   | cons _ _=>rfl
   | _=>exact nN h'
  | _=>exact nN h
 | cons a r iha ihr=>
  intro y z h h'
  cases y with
  | nil=>exact nS h
  | cons c d=>cases z with
   | nil=>exact nS h'
   | cons e f=>
    show(if a=e then jt true r f else jt false a e)=some true
    by_cases e1:a=c
    ·have h:=(if_pos e1).symm.trans h
     by_cases e2:c=e
     ·exact(if_pos (e1.trans e2)).trans (ihr true d f h ((if_pos e2).symm.trans h'))
     ·rw[e1,if_neg e2]; exact(if_neg e2).symm.trans h'
    ·have h:jt false a c=some true:=(if_neg e1).symm.trans h
     by_cases e2:c=e
     ·rw[<-e2,if_neg e1]; exact h
     ·have h':jt false c e=some true:=(if_neg e2).symm.trans h'
      by_cases e3:a=e
      ·exact nS ((sN false a c true e1 h).symm.trans (e3▸h'))
      ·exact(if_neg e3).trans (iha false c e h h')
   | _=>exact nN h'
  | _=>exact nN h
section
variable{prog:Program}{w:World}
def LtP(prog:Program)(w:World)(x:KD):Prop:=∀(y:KD)(v u:Value)(A:Around)(E:Value->Shared->Prop)(s:Shared)(Q:Value->Shared->Prop)(b:Bool),
 dz s.heap x v->dz s.heap y u->jt false x y=some b->A.units+gS false x<cLine->Q (.bool b) s->wpAny (model prog w) A (compareOp .Lt v u) Q E s
def F0(prog:Program)(w:World):KD->Prop
 | .cons a b=>LtP prog w a/\F0 prog w b
 | _=>True
inductive qQ(prog:Program)(w:World)(h:Heap)(d:Nat)(b fin:Bool):List (Value×Value)->Prop
 | mk {x y:KD}{xs ys:List Value}(hp:F0 prog w x)(hd:gS true x<=d)(hx:jc h x xs)(hy:jc h y ys)(hb:jt true x y=some b)(hl:decide (xs.length<ys.length)=fin):qQ prog w h d b fin (List.zip xs ys)
set_option tactic.hygienic true in
theorem qQ.step{h:Heap}{d:Nat}{b fin:Bool}{l:List (Value×Value)}(i:qQ prog w h d b fin l):∀{p q:Value}{rest:List (Value×Value)},l=(p,q)::rest->∃k1 k2,dz h k1 p/\dz h k2 q/\LtP prog w k1/\gS false k1<=d/\(k1=k2->qQ prog w h d b fin rest)/\(k1≠k2->jt false k1 k2=some b):=by
 obtain⟨hp,hd,hx,hy,hb,hl⟩:=i
 rename_i x y xs ys
 intro p q rest e
 cases xs with
 | nil=>cases e
 | cons u1 xs=>
  cases ys with
  | nil=>cases e
  | cons u2 ys=>
   cases e
   cases x with
   | cons k1 x=>
    cases y with
    | cons k2 y=>
     refine bD hx λv1 vs e1 h1 hx=>?_
     refine bD hy λv2 us e2 h2 hy=>?_
     cases e1; cases e2
     have hd:max (gS false k1) (gS true x)<=d:=hd
     exact m26 k1 k2 h1 h2 hp.1 (Z (fJ ..) hd) (λe=>.mk hp.2 (Z (gE ..) hd) hx hy ((if_pos e).symm.trans hb) (by rw[<-hl]; exact decide_eq_decide.mpr Nat.succ_lt_succ_iff.symm)) (λe=>(if_neg e).symm.trans hb)
    | nil=>cases (show _::_=[] from hy)
    | _=>exact hy.elim
   | nil=>cases (show _::_=[] from hx)
   | _=>exact hx.elim
set_option tactic.hygienic true in
theorem qQ.done{h:Heap}{d:Nat}{b fin:Bool}{l:List (Value×Value)}(i:qQ prog w h d b fin l)(e:l=[]):fin=b:=by
 obtain⟨hp,hd,hx,hy,hb,hl⟩:=i
 rename_i x y xs ys
 rw[<-hl]
 cases x with
 | nil=>
  obtain rfl:xs=[]:=hx
  cases y with
  | nil=>obtain rfl:ys=[]:=hy; exact aw hb
  | cons k2 y=>refine bD hy λv2 us e2r J J=>?_; rw[e2r]; exact aw hb
  | _=>exact hy.elim
 | cons k1 x=>
  refine bD hx λv1 vs e2r J J=>?_
  subst e2r
  cases y with
  | nil=>obtain rfl:ys=[]:=hy; exact aw hb
  | cons k2 y=>refine bD hy λv2 us e2r J J=>?_; subst e2r; cases e
  | _=>exact hy.elim
 | _=>exact hx.elim
theorem A4{x y:KD}{a c:Addr}{A:Around}{E:Value->Shared->Prop}{s:Shared}{Q:Value->Shared->Prop}{b:Bool}(ih:F0 prog w x)(hx:jq s.heap x a)(hy:jq s.heap y c)(hl:jt true x y=some b)(hu:A.units+gS true x+1<cLine)(h:Q (.bool b) s) :
  wpAny (model prog w) A (compareOp .Lt (.ref a) (.ref c)) Q E s:=by
 refine aM hx λxs ga ix=>?_
 refine aM hy λys gc iy=>?_
 show wpAny (model prog w) A (richCompare .Lt (.ref a) (.ref c)) Q E s
 refine wpAny_richCompare_same_room (T:="tuple") ⟨_,ga,rfl⟩ ⟨_,gc,rfl⟩ PySem.F.slot_tuple_lt (wpAny_call_entry PySem.F.slot_tuple_lt ⟨_,ga,rfl⟩ PySem.F.entry_tuple_lt ?_ (PySem.F.args_tuple_lt_2 _ _)) (by exact ah (Z (bg _ _) (cr _)) hu)
 show wpAny _ _ (isInstance (.ref c) (.type "tuple")>>=_) _ _ s
 refine wpAny_bind (wpAny_isInstance ⟨_,gc,rfl⟩ isSubtype_tuple_tuple ?_)
 refine wpAny_bind (wpAny_tupleItemsOf ga rfl (wpAny_bind (wpAny_tupleItemsOf gc rfl (wpAny_bind ?_))))
 refine wpAny_forIn_list _ (λrest r s'=>(r.1=none/\s'=s)/\qQ prog w s.heap (gS true x) b (decide (xs.length<ys.length)) rest) _ ?_ ?_ _ _ ⟨⟨rfl,rfl⟩,by simpa using qQ.mk ih (ad _) ix iy hl rfl⟩
 ·rintro⟨p,q⟩ rest r s' ⟨⟨hr,rfl⟩,hi⟩
  refine o26 (hi.step rfl) λk1 k2 h1 h2 hp hd heq hne=>?_
  refine bx (λJ=>dz.eqBool h1 h2 (by simp only[dC]; exact ah (Z (au hd (A.units+1)) (am (fG A.units 1 _))) hu)) ?_
  by_cases hk:k1=k2
  ·rw[decide_eq_true hk]
   exact wpAny_pure ⟨⟨rfl,rfl⟩,heq hk⟩
  ·rw[decide_eq_false hk]
   refine wpAny_bind (wpAny_rule (wpAny_bind ?_))
   refine hp k2 p q A.in1 _ _ _ b h1 h2 (hne hk) (by simp only[dC]; exact ah (Z (au hd (A.units+1)) (am (fG A.units 1 _))) hu) ?_
   exact wpAny_bind (wpAny_pure (wpAny_pure (wpAny_pure (a0 (.bool b) rfl (AK (by intro e; cases e) h)))))
 ·rintro⟨r1,r2⟩ s' ⟨⟨hr,rfl⟩,hi⟩
  simp only at hr
  subst hr
  refine wpAny_pure (a0 (.bool (decide (xs.toArray.size<ys.toArray.size))) rfl ?_)
  simp only[ao,ao,hi.done rfl]
  exact AK (by intro e; cases e) h
theorem G4(x:KD):LtP prog w x/\F0 prog w x:=by
 induction x with
 | i n=>exact⟨λy v u A E s Q b hx hy hl hu h=>by
   obtain⟨t,rfl⟩:=hx
   cases y with
   | i m=>
    obtain⟨t',rfl⟩:=hy
    have:decide (n<m)=b:=aw hl
    subst this
    exact P.lt_int h
   | _=>exact nN hl,trivial⟩
 | s n=>exact⟨λy v u A E s Q b hx hy hl hu h=>by
   obtain⟨_,t,rfl⟩:=hx
   cases y with
   | s m=>
    obtain⟨_,t',rfl⟩:=hy
    have:decide (n.cps.toList<m.cps.toList)=b:=aw hl
    subst this
    exact PySem.P.lt_str (by exact h)
   | _=>exact nN hl,trivial⟩
 | nil=>exact⟨λy v u A E s Q b hx hy hl hu h=>by
   obtain⟨a,rfl,ga⟩:=hx
   cases y with
   | nil=>
    obtain⟨c,rfl,gc⟩:=hy
    exact A4 (x:=.nil) (y:=.nil) trivial (a0 _ ga rfl) (a0 _ gc rfl) hl hu h
   | cons p q=>
    refine mL hy λc w1 w2 e3r gc r1 r2=>?_
    subst e3r
    exact A4 (x:=.nil) (y:=.cons p q) trivial (a0 _ ga rfl) ⟨_,gc,w1,w2,rfl,r1,r2⟩ hl hu h
   | _=>exact nN hl,trivial⟩
 | cons p q ihp ihq=>
  have ih:F0 prog w (.cons p q):=⟨ihp.1,ihq.2⟩
  exact⟨λy v u A E s Q b hx hy hl hu h=>by
   refine mL hx λa u1 u2 e3r ga i1 i2=>?_
   subst e3r
   cases y with
   | nil=>
    obtain⟨c,rfl,gc⟩:=hy
    exact A4 (x:=.cons p q) (y:=.nil) ih ⟨_,ga,u1,u2,rfl,i1,i2⟩ (a0 _ gc rfl) hl hu h
   | cons p' q'=>
    refine mL hy λc w1 w2 e3r gc r1 r2=>?_
    subst e3r
    exact A4 (x:=.cons p q) (y:=.cons p' q') ih ⟨_,ga,u1,u2,rfl,i1,i2⟩ ⟨_,gc,w1,w2,rfl,r1,r2⟩ hl hu h
   | _=>exact nN hl,ih⟩
end
noncomputable def mR:Bool->KD->Bool
 | true,.cons (.s _) _=>true
 | false,.cons .nil _=>true
 | false,.cons (.cons _ _) _=>true
 | _,_=>false
section
variable{prog:Program}{w:World}{A:Around}{E:Value->Shared->Prop}{s:Shared}
theorem Hc{bb fin b:Bool}{Q:Bool->Shared->Prop}(h:Q b s)(x:KD):∀(y:KD)(xs ys:List Value)(i:Nat),jc s.heap x xs->jc s.heap y ys->jt true x y=some b->fin=decide (xs.length<ys.length)->A.units+gS true x+1<cLine->(i=0->bb=true->mR true x=true/\mR true y=true)->
  KatLex prog w A bb fin Q (xs.zip ys) i s:=by
 induction x with
 | i _=>exact λJ J J J hx=>hx.elim
 | s _=>exact λJ J J J hx=>hx.elim
 | nil=>
  intro y xs ys i hx hy hl hf _ _
  cases hx
  refine kat_nil ?_
  subst hf
  cases y with
  | i _=>exact hy.elim
  | s _=>exact hy.elim
  | nil=>cases hy; rw[show decide (([]:List Value).length<([]:List Value).length)=b from aw hl]; exact h
  | cons p q=>exact bD hy λu r e J J=>by rw[e,show decide (([]:List Value).length<(u::r).length)=b from(decide_eq_true (cH _)).trans (aw hl)]; exact h
 | cons p q _ ih=>
  intro y xs ys i hx hy hl hf hu h0
  cases y with
  | i _=>exact hy.elim
  | s _=>exact hy.elim
  | nil=>
   cases hy
   rw[qp]
   refine kat_nil ?_
   rw[hf,show decide (xs.length<([]:List Value).length)=b from(decide_eq_false (cF _)).trans (aw hl)]
   exact h
  | cons p' q'=>
   refine bD hx λu r e1 h1 h2=>bD hy λu' r' e2 h1' h2'=>?_
   subst e1; subst e2
   have hu:A.units+max (gS false p) (gS true q)+1<cLine:=hu
   refine kat_cons (dz.eqBool h1 h1' (by exact ah (Z (au (fJ _ _) _) (cr _)) hu) ?_)
   by_cases e:p=p'
   ·rw[decide_eq_true e]
    exact kat_yes (ih q' r r' (i+1) h2 h2' ((if_pos e).symm.trans hl) (by rw[hf]; simp) (by exact ah (cq (au (gE _ _) _)) hu) λq=>absurd q (IB i))
   ·rw[decide_eq_false e]
    have hl:jt false p p'=some b:=(if_neg e).symm.trans hl
    refine kat_no ?_
    by_cases g:(bb&&i==0)=true
    ·rw[g]
     have g:=dZ g
     refine eV (h0 (eq_of_beq g.2) g.1) λk1 k2=>?_
     cases p with
     | s a=>cases p' with
      | s c=>
       obtain⟨_,t,rfl⟩:=h1
       obtain⟨_,t',rfl⟩:=h1'
       exact oneLt_str (aw hl▸h)
      | _=>cases k2
     | _=>cases k1
    ·rw[iG.mpr g]
     exact kat_one u u' ((G4 p).1 p' u u' _ _ _ _ b h1 h1' hl (by exact ah (Z (au (fJ _ _) _) (cr _)) hu) h)
def nA(h:Heap):List KD->List Value->Prop
 | [],vs=>vs=[]
 | k::ks,vs=>∃a r,vs=.ref a::r/\jq h k a/\nA h ks r
theorem nA.length{h:Heap}{ks:List KD}:∀{vs:List Value},nA h ks vs->ks.length=vs.length:=by
 induction ks with
 | nil=>exact @λJ e=>by cases e; rfl
 | cons k ks ih=>exact @λJ z=>bD z λa r e J hr=>e▸congrArg bf (ih hr)
theorem nA.get{h:Heap}:∀{ks:List KD}{vs:List Value}{i:Nat},nA h ks vs->i<vs.length->∃a k,vs.getD i .none=.ref a/\ks[i]?=some k/\jq h k a:=by
 intro ks
 induction ks with
 | nil=>exact @λJ J e h=>by cases e; cases h
 | cons k ks ih=>
  intro vs i z hi
  refine bD z λa r e hk hr=>?_
  subst e
  cases i with
  | zero=>exact bX a k rfl rfl hk
  | succ i=>exact ih (i:=i) hr (em hi)
theorem nA.keeps{h h':Heap}(k:∀a vs,h.get? a=some (aN vs)->h'.get? a=some (aN vs)){ks:List KD}:∀{vs:List Value},nA h ks vs->nA h' ks vs:=by
 induction ks with
 | nil=>exact @λJ e=>e
 | cons _ _ ih=>
  intro _ z1
  refine bD z1 λa r e hk hr=>?_
  exact bX a r e (hk.keeps k) (ih hr)
structure tt(fk:Bool)(ks:List KD):Prop where
 nodup:ks.Nodup
 comp:∀x∈ks,∀y∈ks,x≠y->(jt true x y).isSome=true
 fst:∀x∈ks,mR fk x=true
 dep:∀x∈ks,gS true x<=6
theorem tt.perm{fk:Bool}{ks ls:List KD}(h:tt fk ks)(p:ls.Perm ks):tt fk ls:=⟨p.nodup_iff.mpr h.nodup,λx hx y hy=>h.comp x (p.mem_iff.mp hx) y (p.mem_iff.mp hy),λx hx=>h.fst x (p.mem_iff.mp hx),λx hx=>h.dep x (p.mem_iff.mp hx)⟩
noncomputable def Ez(ks:List KD)(i j:Nat):Bool:=match ks[i]?,ks[j]? with | some x,some y=>jt true x y==some true | _,_=>false
theorem Jv{fk:Bool}{ks:List KD}(h:tt fk ks):tw (Ez ks) ks.length where
 tot:=λi j hi hj hne=>by
  unfold Ez
  rw[aI hi,aI hj]
  have hk:ks[i]≠ks[j]:=λe=>hne ((HR h.nodup).mp e)
  refine ik (dG.mp (h.comp _ (gu hi) _ (gu hj) hk)) λb hb=>?_
  have hb':=sN true _ _ b hk hb
  dsimp only
  rw[hb,hb']
  cases b<;>rfl
 trans:=λi j k h1 h2=>by
  unfold Ez at h1 h2 ⊢
  cases e1:ks[i]? with
  | none=>rw[e1] at h1; cases h1
  | some x=>
   cases e2:ks[j]? with
   | none=>rw[e1,e2] at h1; cases h1
   | some y=>
    cases e3:ks[k]? with
    | none=>rw[e2,e3] at h2; cases h2
    | some z=>
     rw[e1,e2] at h1; rw[e2,e3] at h2
     have:=nh true x y z (eq_of_beq h1) (eq_of_beq h2)
     show(jt true x z==some true)=true
     rw[this]; rfl
theorem yN{M:Model}{fk:Bool}{ks:List KD}:∀{vs:List Value},nA s.heap ks vs->(∀x∈ks,mR fk x=true)->∃fs,KatTups s.heap vs fs/\fs.length=vs.length/\∀v∈fs,Looks M s.heap (typeOf v) (if fk then .type "str" else .type "tuple"):=by
 induction ks with
 | nil=>exact @λvs e J=>by have e:vs=[]:=e; subst e; exact lz [] trivial rfl (λJ h=>nomatch h)
 | cons k ks ih=>
  intro _ z1 hf
  refine bD z1 λa r e hk hr=>?_
  subst e
  refine lL (ih hr λx hx=>hf x (.tail _ hx)) λfs h1 h2 h3=>?_
  have hk0:=hf k (.head _)
  obtain⟨us,hg,hi⟩:=hk
  cases k with
  | i _=>exact hi.elim
  | s _=>exact hi.elim
  | nil=>cases fk<;>cases hk0
  | cons p q=>
   obtain⟨u,t,rfl,hu,_⟩:=hi
   refine lz (u::fs) (KatTups.cons hg rfl rfl rfl h1) (congrArg bf h2) (λv hv=>?_)
   rcases aE.mp hv with rfl | hv
   ·cases fk with
    | true=>cases p with
     | s y=>obtain⟨_,tk,rfl⟩:=hu; exact Looks.of_pure rfl
     | _=>cases hk0
    | false=>cases p with
     | nil=>obtain⟨c,rfl,hc⟩:=hu; exact(Looks.ld hc).andThen .now
     | cons _ _=>refine lW hu λc J J e3r hc J=>?_; subst e3r; exact(Looks.ld hc).andThen .now
     | _=>cases hk0
   ·exact h3 v hv
theorem GS{α:Type}{R:α->α->Prop}{l:List α}(h:l.length<2):l.Pairwise R:=by
 cases l with
 | nil=>exact .nil
 | cons a r=>cases r with
  | nil=>exact List.pairwise_singleton _ _
  | cons b r=>exact absurd h (me (ie 2 _))
theorem Ex{H:Heap}{k:KD}:∀{us:List Value},jc H k us->jt true k k=some false:=by
 induction k with
 | i _=>exact λx=>x.elim
 | s _=>exact λx=>x.elim
 | nil=>exact λJ=>rfl
 | cons a b _ ih=>exact λx=>bD x λJ J J J x=>(if_pos rfl).trans (ih x)
theorem G5{fk:Bool}{ks:List KD}{H:Heap}(hs:tt fk ks){i j:Nat}{x y:KD}{us:List Value}(gi:ks[i]?=some x)(gj:ks[j]?=some y)(ix:jc H x us):∃b,jt true x y=some b/\Ez ks i j=b:=by
 have e:Ez ks i j=(jt true x y==some true):=by unfold Ez; rw[gi,gj]
 rw[e]
 by_cases q:x=y
 ·subst q; rw[Ex ix]; exact a0 false rfl rfl
 ·refine ik (dG.mp (hs.comp x (cD gi) y (cD gj) q)) λb hb=>?_
  rw[hb]; exact a0 b rfl (by cases b<;>rfl)
theorem nA.pick{h:Heap}{ks:List KD}{vs:List Value}(hk:nA h ks vs){l:List Nat}(hl:∀i∈l,i<vs.length):nA h (l.map λi=>ks.getD i .nil) (l.map λi=>vs.getD i gT):=by
 induction l with
 | nil=>rfl
 | cons i l ih=>
  refine bD (hk.get (hl i (.head _))) λai ki ei gi Ii=>?_
  exact bX ai _ (congrArg (·::_) ei) (by show jq h (ks.getD i .nil) ai; rw[bL,gi]; exact Ii) (ih λj hj=>hl j (.tail _ hj))
theorem xo{α:Type}(l:List α)(d:α):(dh l.length).map (λi=>l.getD i d)=l:=by
 apply rx
 intro i
 rw[bB]
 by_cases hi:i<l.length
 ·rw[pH hi]; simp[hi]
 ·rw[cQ (by simpa using hi),cQ (by simpa using hi)]; rfl
theorem GD{h:Heap}{ks:List KD}{vs:List Value}(hk:nA h ks vs){p:Array Nat}(hp:jb vs.length p)(hu:yd (Ez ks) p vs.length):(p.toList.map λi=>ks.getD i .nil).Pairwise λx y=>jt true x y=some true:=by
 have hmem:∀i∈p.toList,i<vs.length:=λi hi=>bz.mp (hp.perm.mem_iff.mp hi)
 rw[lx]
 intro i j hi hj hij
 rw[ar] at hi hj
 have hi':i<p.size:=by simpa using hi
 have hj':j<p.size:=by simpa using hj
 have:=hu i j hij (hp.size▸hj')
 rw[show p.getD i 0=p[i] by simp[cC,hi'],show p.getD j 0=p[j] by simp[cC,hj']] at this
 rw[HQ,HQ,BE,BE]
 refine bD (hk.get (hmem p[i] (by simp))) λJ ki J gi J=>bD (hk.get (hmem p[j] (by simp))) λJ kj J gj J=>?_
 unfold Ez at this
 rw[gi,gj] at this
 rw[bL,bL,gi,gj]
 exact eq_of_beq this
theorem vT{fk:Bool}{a:Addr}{vs:List Value}{ks:List KD}{n:Nat}{P:PySem.Fin->Shared->Prop}(ho:s.heap.get? a=some (seqObj "list" vs.toArray n))(hk:nA s.heap ks vs)(hs:tt fk ks)(h64:vs.length<64)(hu:A.units+10<cLine)
  (h:∀(out:List Value)(ls:List KD),out.Perm vs->nA s.heap ls out->ls.Perm ks->ls.Pairwise (λx y=>jt true x y=some true)->P (.done (.ret .none)) { s with heap:=sortedHeap s.heap a vs out.toArray }) :
  wpAny (model prog w) A (Builtin.«list.sort» ⟨[.ref a],[]⟩) P E s:=by
 rw[list_sort_plain]
 have ha:a<s.heap.objs.size:=aJ ho
 refine wpAny_bind (listItems_at ho rfl ?_)
 refine wpAny_bind (listUpdate_at ho rfl ?_ (by rw[ao,sizeLine_eq]; exact Z (cJ h64) (N rfl)) (aH _))
 obtain⟨e1,ho1⟩:∃e1,(s.heap.update a (cO λJ=>#[])).get? a=some (seqObj "list" #[] e1):=⟨_,get?_update_seq ho (λJ=>#[])⟩
 refine wpAny_bind (seqEpoch_at ho1 rfl ?_)
 refine wpAny_bind (wpAny_newTuple ?_ (by show vs.length<=_; rw[sizeLine_eq]; exact Z (cJ h64) (N rfl)))
 refine wpAny_bind (wpAny_newList ?_ (aH _))
 refine wpAny_holding ?_
 have ho6:(((s.heap.update a (cO λJ=>#[])).push (seqObj "tuple" vs.toArray 0)).push (seqObj "list" #[] 0)).get? a=some (seqObj "list" #[] e1):=by
  rw[Gd _ _ _ (by rw[size_push',HS]; exact aB (cx ha)),Gd _ _ _ (by rw[HS]; exact aB ha)]
  exact ho1
 generalize hH:(((s.heap.update a (cO λJ=>#[])).push (seqObj "tuple" vs.toArray 0)).push (seqObj "list" #[] 0))=H at ho6
 have keep:∀c us,s.heap.get? c=some (aN us)->H.get? c=some (aN us):=λc us e=>by
  have hca:c≠a:=λq=>by subst q; rw[ho] at e; have e:=aw e; have e:=congrArg Obj.cls e; injection e with e; exact absurd e (by decide)
  rw[<-hH]
  exact ab _ (ab _ ((Heap.get?_update_ne _ _ _ _ hca).trans e))
 have fin:∀(out:List Value)(ls:List KD),out.Perm vs->nA s.heap ls out->ls.Perm ks->ls.Pairwise (λx y=>jt true x y=some true)->P (.done (.ret .none)) { s with heap:=H.update a (cO λJ=>out.toArray) }:=λout ls h1 h2 h3 h4=>by
  have:=h out ls h1 h2 h3 h4
  unfold sortedHeap at this
  rw[hH] at this; exact this
 dsimp only
 have hsz:vs.toArray.size=vs.length:=by simp
 by_cases h2:vs.toArray.size<2
 ·rw[if_pos h2,if_pos h2]
  refine wpAny_bind (wpAny_pure ?_)
  refine wpAny_bind (wpAny_pure ?_)
  dsimp only
  refine wpAny_bind (seqEpoch_at ho6 rfl ?_)
  refine wpAny_bind (listUpdate_at ho6 rfl ?_ (aH _) (by rw[ew]; show(PyProof.Rows.pairsOf vs).size<=_; rw[pairsOf_size,sizeLine_eq]; exact l1 1 64 0 16777217 h64 rfl))
  simp only[bne_self_eq_false,fB,if_false]
  have e:(arrOf (SortSt.mk' general' (vs.toArray.zip vs.toArray) #[] 7 none)).map (·.2)=vs.toArray:=by
   apply Gf.mp
   rw[Ge,Array.toList_zip]
   exact HO (ad _)
  rw[e]
  refine wpAny_pure (fin vs ks (.refl _) hk (.refl _) ?_)
  have:ks.length<2:=by rw[hk.length,<-hsz]; exact h2
  exact GS this
 ·rw[if_neg h2,if_neg h2]
  have h2':2<=vs.length:=by exact aF ‹_›
  have hkH:=hk.keeps keep
  refine lL (yN (M:=model prog w) (s:={ s with heap:=H }) hkH hs.fst) λfs t1 t2 t3=>?_
  refine wpAny_bind (kat_kind (s:={ s with heap:=H }) t1 (by exact lc 2 0 0 0 1 0 h2' (am t2.symm) rfl) t3 (by cases fk<;>simp) ?_)
  have hfk:((if fk then b9 "str" else b9 "tuple") != b9 "tuple")=fk:=by cases fk<;>decide
  rw[hfk]
  have hlen:ks.length=vs.length:=hk.length
  refine wpAny_bind (wpAny_mono (kat_run (κ:=tuples' fk) (s:={ s with heap:=H }) (vs:=vs) (ks:=vs) (Q:=λst' s'=>s'={ s with heap:=H }/\∃p:Array Nat,arrOf st'=p.map (kas_item (vs.toArray.zip vs.toArray))/\failedOf st'=none/\jb vs.length p/\yd (Ez ks) p vs.length)
   (G:=λp s'=>s'={ s with heap:=H }/\jb vs.length p/\yd (Ez ks) p vs.length) rfl h2' h64 (λp st' s' J har hf hq=>sE hq λe hp hu=>⟨e,p,har,hf,hp,hu⟩) ?_) ?_ λJ J e=>e)
  ·refine Ia (lt:=Ez ks) (n:=vs.length) (λi j C hi hj hC=>?_) (Gr (hlen▸Jv hs) h2' λq hq hqu=>⟨rfl,hq,hqu⟩)
   refine bD (hkH.get hi) λai ki ei gi Ii=>?_
   refine bD (hkH.get hj) λaj kj ej gj Ij=>?_
   show wpAny _ _ (keyLt' (tuples' fk) (vs.getD i gT) (vs.getD j gT)) C _ _
   rw[ei,ej]
   refine aM Ii λxs gx ix=>?_
   refine aM Ij λys gy iy=>?_
   refine aM (G5 hs gi gj ix) λb hb hb'=>?_
   have mi:=cD gi
   have mj:=cD gj
   rw[hb'] at hC
   have hu':=hs.dep ki mi
   exact kat_lt (s:={ s with heap:=H }) gx rfl gy rfl (Hc hC ki kj xs ys 0 ix iy hb (by rfl) (by exact ah (au (cq (Z hu' (N rfl:6<=9))) A.units) hu) λJ e=>⟨e▸hs.fst ki mi,e▸hs.fst kj mj⟩)
  ·rintro⟨⟨⟩,st'⟩ s' ⟨rfl,p,har,hf,hp,hup⟩
   have hout:=kat_snds rfl har
   refine wpAny_bind (seqEpoch_at ho6 rfl ?_)
   refine wpAny_bind (listUpdate_at ho6 rfl ?_ (aH _) (by rw[hout,ao,ar,aP,hp.size,sizeLine_eq]; exact l1 1 64 0 16777217 h64 rfl))
   rw[hf]
   simp only[bne_self_eq_false,fB,if_false]
   rw[hout]
   refine wpAny_pure (fin _ (p.toList.map λi=>ks.getD i .nil) ((hp.perm.map _).trans (.of_eq (xo vs _))) (hk.pick λi hi=>bz.mp (hp.perm.mem_iff.mp hi)) ((hp.perm.map _).trans (.of_eq ?_)) (GD hk hp hup))
   rw[<-hlen]; exact xo ks _
end
noncomputable abbrev J8:=tE
noncomputable def A9{α:Type}(f:α->α):Nat->α->α
 | 0,x=>x
 | n+1,x=>f (A9 f n x)
theorem mO{α:Type}(f:α->α)(n:Nat)(x:α):A9 f (n+1) x=f (A9 f n x):=rfl
theorem rG{α:Type}(f:α->α)(x:α):∀a b:Nat,A9 f (a+b) x=A9 f a (A9 f b x)
 | 0,b=>by rw[el]; rfl
 | a+1,b=>by rw[fG]; exact congrArg f (rG f x a b)
noncomputable def FR(mask:Nat)(p:J8):J8:=
 if p.more>0 then{ p with j:=p.j+1,more:=p.more - 1 } else
 let q:=uk mask p.i p.perturb
 { p with j:=q.1,more:=be mask q.1 - q.1,i:=q.1,perturb:=q.2 }
noncomputable def pst(mask:Nat)(h:Int):J8:=
 let i:=dB h % (mask+1)
 { j:=i,more:=be mask i - i,i,perturb:=dB h,dummy:=none }
noncomputable def et(mask:Nat)(h:Int):Nat->J8
 | 0=>pst mask h
 | m+1=>FR mask (et mask h m)
noncomputable def kS(mask:Nat)(h:Int):Nat->Nat×Nat
 | 0=>(dB h % (mask+1),dB h)
 | k+1=>uk mask (kS mask h k).1 (kS mask h k).2
noncomputable def Ld(mask:Nat)(q:Nat×Nat):J8:={ j:=q.1,more:=be mask q.1 - q.1,i:=q.1,perturb:=q.2,dummy:=none }
theorem pW(mask i:Nat):be mask i - i<=9/\i<=be mask i/\(i<=mask->be mask i<=mask):=by
 unfold be
 by_cases h:i+9<=mask
 ·rw[if_pos h]; exact⟨am (Nat.add_sub_cancel_left ..),bg _ _,λJ=>h⟩
 ·rw[if_neg h]; exact⟨Z (am (Nat.sub_self i)) (aH _),ad _,λx=>x⟩
theorem EU(mask:Nat)(h:Int):∀k,(kS mask h k).1<=mask
 | 0=>av (ww _ (cH _))
 | _+1=>av (ww _ (cH _))
theorem Az(mask:Nat)(q:Nat×Nat):∀(d:Nat),d<=be mask q.1 - q.1->A9 (FR mask) (d) (Ld mask q)={ j:=q.1+d,more:=be mask q.1 - q.1 - d,i:=q.1,perturb:=q.2,dummy:=none }
 | 0,_=>rfl
 | d+1,hd=>by
  simp only[mO,Az mask q d (by exact cJ ‹_›)]
  unfold FR
  rw[if_pos (HK hd)]
  congr 1
theorem HB(mask:Nat)(q:Nat×Nat):A9 (FR mask) (be mask q.1 - q.1+1) (Ld mask q)=Ld mask (uk mask q.1 q.2):=by
 simp only[mO,Az mask q _ (ad _)]
 unfold FR
 rw[if_neg (by simp)]
 rfl
theorem uF(mask:Nat)(h:Int)(m d:Nat):et mask h (m+d)=A9 (FR mask) (d) (et mask h m):=by
 induction d with
 | zero=>rfl
 | succ d ih=>rw[mO,<-ih]; rfl
noncomputable def Bg(mask:Nat)(h:Int):Nat->Nat
 | 0=>0
 | k+1=>Bg mask h k+(be mask (kS mask h k).1 - (kS mask h k).1+1)
theorem EV(mask:Nat)(h:Int):∀k,Bg mask h k<=10*k
 | 0=>ad _
 | k+1=>kY (EV mask h k) (cq (pW mask (kS mask h k).1).1)
theorem sC(mask:Nat)(h:Int):∀k,et mask h (Bg mask h k)=Ld mask (kS mask h k)
 | 0=>rfl
 | k+1=>by
  show et mask h (Bg mask h k+_)=_
  rw[uF,sC mask h k,HB]; rfl
theorem rC(mask:Nat)(h:Int)(k d:Nat)(hd:d<=be mask (kS mask h k).1 - (kS mask h k).1):(et mask h (Bg mask h k+d)).j=(kS mask h k).1+d:=by
 simp only[uF,sC,Az _ _ _ hd]
theorem xf(mask:Nat)(h:Int):∀m,∃k d,m=Bg mask h k+d/\d<=be mask (kS mask h k).1 - (kS mask h k).1
 | 0=>(rn 0 0 rfl (aH _))
 | m+1=>by
  refine oq (xf mask h m) λk d e hd=>?_
  by_cases q:d+1<=be mask (kS mask h k).1 - (kS mask h k).1
  ·exact rn k (d+1) (congrArg bf e) q
  ·exact rn (k+1) 0 ((congrArg bf e).trans (congrArg (λx=>Bg mask h k+(x+1)) (ck hd (av (dJ q))))) (aH _)
theorem vM(mask:Nat)(h:Int)(m:Nat):(et mask h m).j<=mask:=by
 refine oq (xf mask h m) λk d e hd=>?_
 rw[e,rC mask h k d hd]
 have:=pW mask (kS mask h k).1
 exact Z (au hd _) (Z (am (fg this.2.1)) (this.2.2 (EU mask h k)))
theorem y8(mask:Nat)(h:Int)(m:Nat):(et mask h m).dummy=none:=by
 induction m with
 | zero=>rfl
 | succ m ih=>
  show(FR mask (et mask h m)).dummy=none
  dsimp only[FR]
  split<;>exact ih
noncomputable def Iv(mask i:Nat):Nat:=(i*5+1) % (mask+1)
structure hY(mask:Nat):Prop where
 all:∀v,v<=mask->∃n,n<=mask/\A9 (Iv mask) (n) 0=v
 back:A9 (Iv mask) (mask+1) 0=0
 odd:mask % 2=1
 le:mask<=127
theorem uE(mask:Nat)(h:Int):∀k,(kS mask h k).2=dB h / 32 ^ k
 | 0=>by rw[Nat.pow_zero,Nat.div_one]; rfl
 | k+1=>by
  show(kS mask h k).2 / 32=_
  simp only[uE mask h k,Nat.div_div_eq_div_mul,Nat.pow_succ]
theorem Hy(h:Int):dB h<2 ^ 64:=by
 unfold dB
 exact(Int.toNat_lt (Int.emod_nonneg h (show(2 ^ 64:Int)≠0 by decide))).mpr (Int.emod_lt_of_pos h (by decide))
theorem vK(mask:Nat)(h:Int)(k:Nat):(kS mask h (13+k)).2=0:=by
 rw[uE]
 refine Nat.div_eq_of_lt (af (Hy h) ?_)
 rw[Nat.pow_add]
 exact Z (show 2 ^ 64<=32 ^ 13 by decide) (Nat.le_mul_of_pos_right _ (Nat.pow_pos (by decide)))
theorem xF(mask:Nat)(h:Int):∀k,(kS mask h (13+k)).1=A9 (Iv mask) (k) (kS mask h 13).1
 | 0=>rfl
 | k+1=>by
  simp only[mO,<-xF mask h k]
  show((kS mask h (13+k)).1*5+1+(kS mask h (13+k)).2 / 32) % (mask+1)=_
  rw[vK]; rfl
theorem EL{mask:Nat}(ok:hY mask){i v:Nat}(hi:i<=mask)(hv:v<=mask):∃n,n<=mask/\A9 (Iv mask) (n) i=v:=by
 refine aM (ok.all i hi) λa ha ea=>?_
 refine aM (ok.all v hv) λb hb eb=>?_
 by_cases q:a<=b
 ·refine⟨b - a,Z (f9 b a) hb,?_⟩
  rw[<-ea,<-rG,dI q,eb]
 ·refine⟨b+(mask+1) - a,jw (Z (am (aV b mask).symm) (Z (eP (dJ q) mask) (am (rN a mask)))),?_⟩
  rw[<-ea,<-rG,dI (Z ha (Z (cr mask) (ie _ b))),rG,ok.back,eb]
theorem Bf{mask:Nat}(ok:hY mask)(h:Int){v:Nat}(hv:v<=mask):∃k,k<=13+mask/\(kS mask h k).1=v:=by
 refine aM (EL ok (EU mask h 13) hv) λn hn e=>?_
 exact a0 (13+n) (by exact au ‹_› _) (by rw[xF]; exact e)
theorem Eh{mask:Nat}(ok:hY mask)(h:Int){v:Nat}(hv:v<=mask):∃m,m<=10*(13+mask)/\(et mask h m).j=v:=by
 refine aM (Bf ok h hv) λk hk e=>?_
 exact a0 (Bg mask h k) (Z (EV mask h k) (j4 _ hk)) (by rw[sC]; exact e)
theorem qa{mask:Nat}(h1:((dh (mask+1)).all λv=>(dh (mask+1)).any λn=>Nat.rec (motive:=λJ=>Nat) 0 (λJ i=>Iv mask i) n==v)=true)(h2:(Nat.rec (motive:=λJ=>Nat) 0 (λJ i=>Iv mask i) (mask+1)==0)=true)(h3:mask % 2=1)(h4:mask<=127):hY mask:=by
 have it:∀n,Nat.rec (motive:=λJ=>Nat) 0 (λJ i=>Iv mask i) n=A9 (Iv mask) (n) 0:=by
  intro n
  induction n with
  | zero=>rfl
  | succ n ih=>rw[mO,<-ih]
 refine⟨λv hv=>?_,by rw[<-it]; exact eq_of_beq h2,h3,h4⟩
 have:=bu.mp h1 v (bz.mpr (bJ hv))
 refine aM (eu.mp this) λn hn e=>?_
 exact a0 n (av (bz.mp hn)) (by rw[<-it]; exact eq_of_beq e)
theorem KH:hY 7:=qa (by decide+kernel) (by decide+kernel) (by simp) (by simp)
theorem Ju:hY 31:=qa (by decide+kernel) (by decide+kernel) (by simp) (by simp)
theorem G1:hY 127:=qa (by decide+kernel) (by decide+kernel) (by simp) (by decide)
def lv(xs:Array Nat):Prop:=∀i j,i<j->j<xs.size->xs.getD i 0<xs.getD j 0
theorem FN{xs:Array Nat}(hr:lv xs)(j:Nat):∀(f lo hi:Nat),lo<=hi->hi<=xs.size->hi - lo<=f->(∀m,m<lo->xs.getD m 0<j)->(∀m,hi<=m->m<xs.size->j<=xs.getD m 0)->
  ∃b,K4 xs j f lo hi=b/\b<=xs.size/\(∀m,m<b->xs.getD m 0<j)/\(∀m,b<=m->m<xs.size->j<=xs.getD m 0):=by
 intro f
 induction f with
 | zero=>
  intro lo hi h1 h2 h3 ha hb
  exact(La lo rfl (by exact Z ‹_› ‹_›) ha (λm x y=>hb m (Z (cu (Dd.mp h3)) x) y))
 | succ f ih=>
  intro lo hi h1 h2 h3 ha hb
  show ∃b,(if lo<hi then _ else lo)=b/\_
  by_cases q:lo<hi
  ·rw[if_pos q]
   have hx:(lo+hi) / 2<hi:=Df (by rw[Da]; exact oy q hi)
   have hl:lo<=(lo+hi) / 2:=(C3 jv).mpr (by rw[Nat.mul_two]; exact au (cJ q) lo)
   have hz:=af hx h2
   have e:∀d,xs.getD ((lo+hi) / 2) d=xs.getD ((lo+hi) / 2) 0:=λd=>by
    simp[cC,hz]
   dsimp only
   rw[e j]
   by_cases q2:xs.getD ((lo+hi) / 2) 0<j
   ·rw[if_pos q2]
    refine ih _ hi hx h2 (jw (Z (De h3) (Z (au hl (f+1)) (am (aV f _))))) (λm hm=>?_) hb
    by_cases q3:m=(lo+hi) / 2
    ·rw[q3]; exact q2
    ·exact cI (hr m ((lo+hi) / 2) (aG (av hm) q3) hz) q2
   ·rw[if_neg q2]
    refine ih lo _ hl (cJ hz) (av (af (f8 hl hx) h3)) ha λm hm hm'=>?_
    by_cases q3:m=(lo+hi) / 2
    ·rw[q3]; exact aF ‹_›
    ·have:=hr ((lo+hi) / 2) m (aG hm (bA q3)) hm'
     exact lc 0 0 1 0 0 0 (aF q2) this rfl
  ·rw[if_neg q]
   exact La lo rfl (by exact Z ‹_› ‹_›) ha (λm x y=>hb m (by exact lc 0 0 0 0 0 0 (aF q) x rfl) y)
theorem pw{xs:Array Nat}(hr:lv xs)(j:Nat):bd xs j<=xs.size/\(∀m,m<bd xs j->xs.getD m 0<j)/\(∀m,bd xs j<=m->m<xs.size->j<=xs.getD m 0):=by
 refine aM (FN hr j xs.size 0 xs.size (aH _) (ad _) (by exact ad _) (λm x=>absurd x (by exact bv (Z (N rfl:1<=1) (ie _ _)))) λm x y=>absurd x (by exact bv y)) λb e h=>?_
 have:bd xs j=b:=e
 rw[this]; exact h
theorem pj{xs:Array Nat}{i j:Nat}:xs[i]?=some j↔i<xs.size/\xs.getD i 0=j:=by
 constructor
 ·intro h
  have hi:i<xs.size:=by
   by_cases q:i<xs.size
   ·exact q
   ·rw[d7 (by exact aF ‹_›)] at h; cases h
  rw[bR hi] at h
  exact⟨hi,by simpa [cC,hi] using h⟩
 ·rintro⟨hi,e⟩
  rw[bR hi]
  simp only[cC,hi,dif_pos] at e
  exact congrArg some e
structure kD(t:SetTable)(hs:Array Int):Prop where
 dum:t.dummies=#[]
 size:t.place.size=hs.size
 rise:lv t.place
 le:∀i,i<t.place.size->t.place.getD i 0<=t.mask
 room:t.place.size<=t.mask
 mok:hY t.mask
 reach:∀i,i<t.place.size->∃r,(et t.mask (hs.getD i 0) r).j=t.place.getD i 0/\∀m,m<r->∃k,k<t.place.size/\t.place.getD k 0=(et t.mask (hs.getD i 0) m).j
section
variable{t:SetTable}{hs:Array Int}
theorem lv.inj{xs:Array Nat}(h:lv xs){i j:Nat}(hi:i<xs.size)(hj:j<xs.size)(e:xs.getD i 0=xs.getD j 0):i=j:=by
 rcases fW i j with q | q | q
 ·exact absurd e (aB (h i j q hj))
 ·exact q
 ·exact absurd e (bP (h j i q hi))
theorem nc(hr:lv t.place){i:Nat}(hi:i<t.place.size):t.slot (t.place.getD i 0)=.live i:=by
 refine sE (pw hr (t.place.getD i 0)) λh1 h2 h3=>?_
 have e:bd t.place (t.place.getD i 0)=i:=by
  rcases fW (bd t.place (t.place.getD i 0)) i with q | q | q
  ·exact absurd (h3 _ (ad _) (cI q hi)) (bv (hr _ i q hi))
  ·exact q
  ·have:=h2 i q; exact zi ‹_›
 unfold F9
 rw[e]
 dsimp only
 rw[pj.mpr ⟨hi,rfl⟩]
 simp
theorem yW(hd:t.dummies=#[])(hr:lv t.place){j:Nat}(hj:∀i,i<t.place.size->t.place.getD i 0≠j):t.slot j=.empty:=by
 unfold F9
 have h1:(t.place[bd t.place j]?==some j)=false:=by
  rw[beq_eq_false_iff_ne]
  intro e
  obtain⟨hi,e⟩:=pj.mp e
  exact hj _ hi e
 have h2:HG t.dummies j=false:=by
  rw[hd]
  rfl
 dsimp only
 rw[h1,h2]
 rfl
theorem kD.empty(T:kD t hs)(h:Int):∃K,K<=10*(13+t.mask)/\∀i,i<t.place.size->t.place.getD i 0≠(et t.mask h K).j:=by
 have:∃v,v<=t.mask/\∀i,i<t.place.size->t.place.getD i 0≠v:=by
  apply Classical.byContradiction
  intro hn
  have hall:∀v,v<=t.mask->∃i,i<t.place.size/\t.place.getD i 0=v:=λv hv=>by
   apply Classical.byContradiction
   intro hq
   exact hn (a0 v hv (λi hi e=>hq (a0 i hi e)))
  have hsub:(dh (t.mask+1)) ⊆ t.place.toList:=λv hv=>by
   refine aM (hall v (av (bz.mp hv))) λi hi e=>?_
   have:t.place[i]?=some v:=pj.mpr ⟨hi,e⟩
   rw[bR hi] at this
   simp only[<-(aw this)]
   simp
  have hl:=(tG (n:=t.mask+1)).length_le_of_subset hsub
  rw[eO,aP] at hl
  have:=T.room
  exact bv (l1 0 0 1 1 this rfl) hl
 refine aM this λv hv hn=>?_
 refine aM (Eh T.mok h hv) λm hm e=>?_
 exact a0 m hm (λi hi=>e▸hn i hi)
def IA(t:SetTable)(hs:Array Int)(h:Int)(m L:Nat):Prop:=∀r,m<=r->r<L->∃i,i<t.place.size/\t.place.getD i 0=(et t.mask h r).j/\hs.getD i 0≠h
def Lj(t:SetTable)(h:Int)(L:Nat):Prop:=∀i,i<t.place.size->t.place.getD i 0≠(et t.mask h L).j
inductive yh(t:SetTable)(hs:Array Int)(h:Int)(m K:Nat)(x:Option HI):Prop
 | empty (L:Nat)(a1:m<=L)(a2:L<=K)(a3:x=some (.empty (et t.mask h L).j none))(a4:Lj t h L)(a5:IA t hs h m L):yh t hs h m K x
 | cand (L i:Nat)(a1:m<=L)(a2:L<K)(a3:i<t.place.size)(a4:t.place.getD i 0=(et t.mask h L).j)(a5:hs.getD i 0=h)(a6:x=some (.candidate (et t.mask h L).j i (et t.mask h (L+1))))(a7:IA t hs h m L):yh t hs h m K x
theorem IA.refl{t:SetTable}{hs:Array Int}{h:Int}{m:Nat}:IA t hs h m m:=λJ x y=>absurd y (me x)
theorem IA.back{t:SetTable}{hs:Array Int}{h:Int}{m L i:Nat}(hi:i<t.place.size)(e:t.place.getD i 0=(et t.mask h m).j)(q:hs.getD i 0≠h)(o:IA t hs h (m+1) L):IA t hs h m L:=λr x y=>
 (Nat.eq_or_lt_of_le x).elim (λe'=>e'▸lz i hi e q) λx=>o r x y
theorem yh.back{t:SetTable}{hs:Array Int}{h:Int}{m K i:Nat}{x:Option HI}(hi:i<t.place.size)(e:t.place.getD i 0=(et t.mask h m).j)(q:hs.getD i 0≠h)(p:yh t hs h (m+1) K x):yh t hs h m K x:=by
 cases p with
 | empty L a1 a2 a3 a4 a5=>exact .empty L (dj a1) a2 a3 a4 (a5.back hi e q)
 | cand L j a1 a2 a3 a4 a5 a6 a7=>exact .cand L j (dj a1) a2 a3 a4 a5 a6 (a7.back hi e q)
theorem Ee(T:kD t hs){hashAt:Nat->Int}(hh:∀i,i<t.place.size->hashAt i=hs.getD i 0)(h:Int){K:Nat}(h3:Lj t h K):∀(fuel m:Nat),m<=K->K - m<fuel->yh t hs h m K (ee t hashAt h fuel (et t.mask h m)):=by
 intro fuel
 induction fuel with
 | zero=>exact λJ J h2=>zn h2
 | succ fuel ih=>
  intro m h1 h2
  by_cases q:∃i,i<t.place.size/\t.place.getD i 0=(et t.mask h m).j
  ·refine aM q λi hi e=>?_
   have hmK:m≠K:=λe2=>h3 i hi (e2▸e)
   have h1':m<K:=aG h1 hmK
   by_cases q2:hs.getD i 0=h
   ·refine .cand m i (ad _) h1' hi e q2 ?_ .refl
    dsimp only[ee]
    rw[(e▸nc T.rise hi:t.slot (et t.mask h m).j=.live i)]
    dsimp only
    rw[hh i hi,if_pos (by simpa using q2)]
    rfl
   ·have:=(ih (m+1) h1' (af (ox _ _ h1') (av h2))).back hi e q2
    dsimp only[ee]
    rw[(e▸nc T.rise hi:t.slot (et t.mask h m).j=.live i)]
    dsimp only
    rw[hh i hi,if_neg (by simpa using q2)]
    exact this
  ·have q':Lj t h m:=λi hi e=>q (a0 i hi e)
   refine .empty m (ad _) h1 ?_ q' .refl
   dsimp only[ee]
   rw[yW T.dum T.rise q',y8]
theorem lN{α:Type}(xs:Array α){p:Nat}(hp:p<=xs.size)(x:α)(i:Nat):(bE xs p x)[i]?=if i<p then xs[i]? else if i=p then some x else xs[i - 1]?:=by
 unfold bE
 have hz:(xs.extract 0 p).size=p:=by rw[pN,By,uR hp]
 have hsz:((xs.extract 0 p).push x).size=p+1:=by rw[m6,hz]
 by_cases h1:i<p
 ·rw[if_pos h1,uU (by rw[hsz]; exact cx ‹_›),C6]
  rw[if_neg (by rw[hz]; exact aB h1)]
  rw[yr]
  rw[if_pos (by rw[By,uR hp]; exact h1),el]
 ·rw[if_neg h1]
  by_cases h2:i=p
  ·rw[if_pos h2,uU (by rw[hsz]; exact l1 0 0 1 1 (am h2) rfl),C6]
   rw[if_pos (by rw[hz]; exact h2)]
  ·have hpi:p<i:=aG (aF h1) (bA h2)
   rw[if_neg h2,Array.getElem?_append_right (by rw[hsz]; exact hpi),hsz]
   rw[yr,Bz,rN p 1,Nat.sub_add_eq,fg (aW hpi)]
   by_cases h3:i - 1<xs.size
   ·rw[if_pos (f8 (aW hpi) h3)]
   ·rw[if_neg (kX.mpr (Nat.sub_le_sub_right (aF h3) p)),d7 (aF h3)]
theorem gl{α:Type}(xs:Array α){p:Nat}(hp:p<=xs.size)(x:α):(bE xs p x).size=xs.size+1:=by
 unfold bE
 rw[Array.size_append,m6,pN,pN,By,uR hp,Bz,fG,fg hp]
theorem eI{α:Type}(xs:Array α){p:Nat}(hp:p<=xs.size)(x d:α)(i:Nat):(bE xs p x).getD i d=if i<p then xs.getD i d else if i=p then x else xs.getD (i - 1) d:=by
 rw[aX,lN xs hp]
 split
 ·simp only[aX]
 ·split
  ·rfl
  ·simp only[aX]
theorem lv.put{xs:Array Nat}(hr:lv xs){j:Nat}(hn:∀i,i<xs.size->xs.getD i 0≠j):lv (bE xs (bd xs j) j):=by
 refine sE (pw hr j) λb1 b2 b3=>?_
 revert b1 b2 b3
 generalize bd xs j=p
 intro b1 b2 b3
 intro a b hab hb
 rw[gl _ b1] at hb
 simp only[eI _ b1,eI _ b1]
 have hbs:b - 1<xs.size:=af (bG hab) (av hb)
 by_cases a1:a<p
 ·rw[if_pos a1]
  by_cases b1':b<p
  ·rw[if_pos b1']; exact hr a b hab (af b1' b1)
  ·rw[if_neg b1']
   by_cases b2':b=p
   ·rw[if_pos b2']; exact b2 a a1
   ·rw[if_neg b2']; exact hr a (b - 1) (af a1 (aW (aG (aF b1') (bA b2')))) hbs
 ·rw[if_neg a1,if_neg (show ¬b<p by exact bv (lc 0 0 1 0 1 1 (aF a1) hab rfl)),if_neg (show b≠p by exact bP (lc 0 0 1 0 1 0 (aF a1) hab rfl))]
  by_cases a2:a=p
  ·rw[if_pos a2]
   exact aG (b3 _ (aW (a2▸hab)) hbs) (bA (hn _ hbs))
  ·rw[if_neg a2]; exact hr (a - 1) (b - 1) (f8 (lQ (ah (aH _) (aG (aF a1) (bA a2)))) hab) hbs
theorem kD.put(T:kD t hs){j:Nat}{h:Int}{pl:Bool}(hj:j<=t.mask)(hn:∀i,i<t.place.size->t.place.getD i 0≠j)(hroom:t.place.size+1<=t.mask)(hr:∃r,(et t.mask h r).j=j/\∀m,m<r->∃k,k<t.place.size/\t.place.getD k 0=(et t.mask h m).j) :
  bd t.place j<=t.place.size/\kD { (t.put j).1 with plain:=pl } (bE hs (bd t.place j) h):=by
 refine sE (pw T.rise j) λb1 b2 b3=>?_
 have hp:=b1
 generalize hP:bd t.place j=p at b1 b2 b3 hp
 have e1:({ (t.put j).1 with plain:=pl }:SetTable).place=bE t.place p j:=by rw[<-hP]; rfl
 have e2:({ (t.put j).1 with plain:=pl }:SetTable).mask=t.mask:=rfl
 have e3:({ (t.put j).1 with plain:=pl }:SetTable).dummies=#[]:=by
  show(if HG t.dummies j=true then _ else t.dummies)=#[]
  rw[T.dum]
  rfl
 have hs':(bE t.place p j).size=t.place.size+1:=gl _ hp _
 have hph:p<=hs.size:=T.size▸hp
 have old:∀v,(∃k,k<t.place.size/\t.place.getD k 0=v)->∃k,k<(bE t.place p j).size/\(bE t.place p j).getD k 0=v:=λv hq=>aM hq λk hk e=>by
  by_cases q:k<p
  ·exact⟨k,by exact lc 1 0 1 0 1 0 hk (am hs'.symm) rfl,by rw[eI _ hp,if_pos q]; exact e⟩
  ·exact⟨k+1,by exact lc 1 0 1 0 2 0 hk (am hs'.symm) rfl,by rw[eI _ hp,if_neg (by exact bv (l1 0 0 1 2 (aF q) rfl)),if_neg λz=>q (am z)]; exact e⟩
 refine⟨hp,e3,?_,?_,?_,?_,T.mok,?_⟩
 ·rw[e1,gl _ hp,gl _ hph,T.size]
 ·rw[e1,<-hP]; exact lv.put T.rise hn
 ·rw[e1,e2]
  intro i hi
  rw[hs'] at hi
  rw[eI _ hp]
  by_cases i1:i<p
  ·rw[if_pos i1]; exact T.le i (af i1 hp)
  ·rw[if_neg i1]
   by_cases i2:i=p
   ·rw[if_pos i2]; exact hj
   ·rw[if_neg i2]; exact T.le (i - 1) (af (bG (aG (aF i1) (bA i2))) (av hi))
 ·rw[e1,e2,hs']; exact hroom
 ·rw[e1,e2]
  intro i hi
  rw[hs'] at hi
  rw[eI _ hp,eI _ hph]
  by_cases i1:i<p
  ·rw[if_pos i1,if_pos i1]
   obtain⟨r,x,y⟩:=T.reach i (af i1 hp)
   exact⟨r,x,λm hm=>old _ (y m hm)⟩
  ·rw[if_neg i1,if_neg i1]
   by_cases i2:i=p
   ·rw[if_pos i2,if_pos i2]
    obtain⟨r,x,y⟩:=hr
    exact⟨r,x,λm hm=>old _ (y m hm)⟩
   ·rw[if_neg i2,if_neg i2]
    obtain⟨r,x,y⟩:=T.reach (i - 1) (af (bG (aG (aF i1) (bA i2))) (av hi))
    exact⟨r,x,λm hm=>old _ (y m hm)⟩
end
noncomputable abbrev FZ:=Array (Option Nat)
theorem Bh{mask:Nat}{owner:FZ}(h:Int):∀(F k:Nat),(∃g,k<=g/\g - k<F/\owner.getD (kS mask h g).1 (some 0)=none)->
  ∃j r,fY mask owner F (kS mask h k).1 (kS mask h k).2=some j/\Bg mask h k<=r/\(et mask h r).j=j/\owner.getD j (some 0)=none/\∀m,Bg mask h k<=m->m<r->owner.getD (et mask h m).j (some 0)≠none
 | 0,_,⟨_,_,h2,_⟩=>absurd h2 (cF _)
 | F+1,k,⟨g,h1,h2,h3⟩=>by
  have hr:=pW mask (kS mask h k).1
  dsimp only[fY]
  cases e:(dh (be mask (kS mask h k).1+1 - (kS mask h k).1)).find? λx=>(owner.getD ((kS mask h k).1+x) (some 0)).isNone with
  | some x=>
   refine sE (List.find?_range_eq_some.mp e) λp1 p2 p3=>?_
   have hx:=bz.mp p2
   have hxr:∀d,d<be mask (kS mask h k).1+1 - (kS mask h k).1->d<=be mask (kS mask h k).1 - (kS mask h k).1:=λd hd=>av (aL hd (Nat.succ_sub hr.2.1))
   refine G3 ((kS mask h k).1+x) (Bg mask h k+x) rfl (bg _ _) (rC mask h k x (hxr x hx)) (by simpa using p1) (λm hm hm'=>?_)
   refine ik (AF hm) λd e1r=>?_
   rw[e1r]
   rw[e1r] at hm'
   have hd:=yn hm'
   rw[rC mask h k d (hxr d (cI hd hx))]
   have:=p3 d hd
   intro e
   rw[e] at this
   exact nt this
  | none=>
   have hall:=List.find?_eq_none.mp e
   have own:∀d,d<=be mask (kS mask h k).1 - (kS mask h k).1->owner.getD ((kS mask h k).1+d) (some 0)≠none:=λd hd e=>hall d (bz.mpr (ah hd (aL (bU _) (Nat.succ_sub hr.2.1).symm))) (by rw[e]; rfl)
   have hg:g≠k:=λq=>by
    cases q
    exact own 0 (aH _) h3
   refine wq (Bh h F (k+1) (lz g (aG h1 (bA hg)) (af (ox _ _ (aG h1 (bA hg))) (av h2)) h3)) λj r a1 a2 a3 a4 a5=>?_
   have hgx:Bg mask h (k+1)=Bg mask h k+(be mask (kS mask h k).1 - (kS mask h k).1+1):=rfl
   refine G3 j r a1 (by exact Z (bg _ _) ‹_›) a3 a4 (λm hm hm'=>?_)
   by_cases q:Bg mask h (k+1)<=m
   ·exact a5 m q hm'
   ·obtain⟨d,rfl⟩:=AF hm
    have hd:d<=be mask (kS mask h k).1 - (kS mask h k).1:=av (yn (aL (dJ q) hgx))
    rw[rC mask h k d hd]
    exact own d hd
structure nL(mask:Nat)(hs:List Int)(owner:FZ)(k:Nat):Prop where
 size:owner.size=mask+1
 lt:∀v i,v<=mask->owner.getD v (some 0)=some i->i<k
 has:∀i,i<k->∃v,v<=mask/\owner.getD v (some 0)=some i/\∃r,(et mask (hs.getD i 0) r).j=v/\∀m,m<r->owner.getD (et mask (hs.getD i 0) m).j (some 0)≠none
 inj:∀v u i,v<=mask->u<=mask->owner.getD v (some 0)=some i->owner.getD u (some 0)=some i->v=u
theorem Em{mask:Nat}{hs:List Int}{owner:FZ}{k:Nat}(O:nL mask hs owner k)(hk:k<=mask):∃v,v<=mask/\owner.getD v (some 0)=none:=by
 apply Classical.byContradiction
 intro hn
 have hall:∀v,v<=mask->∃i,i<k/\owner.getD v (some 0)=some i:=λv hv=>by
  cases e:owner.getD v (some 0) with
  | none=>exact absurd ⟨v,hv,e⟩ hn
  | some i=>exact a0 i (O.lt v i hv e) rfl
 have hnd:((dh (mask+1)).map λv=>(owner.getD v (some 0)).getD 0).Nodup:=by
  rw[wm,iC]
  refine qS ?_ AG
  ·intro v u hv hu hlt e
   refine aM (hall v (av (bz.mp hv))) λi J ei=>?_
   refine aM (hall u (av (bz.mp hu))) λi' J ei'=>?_
   rw[ei,ei'] at e
   subst e
   have:=O.inj v u i (av (bz.mp hv)) (av (bz.mp hu)) ei ei'
   exact bv (l1 0 0 1 1 (am this.symm) rfl) hlt
 have hsub:((dh (mask+1)).map λv=>(owner.getD v (some 0)).getD 0) ⊆ dh k:=λx hx=>by
  refine aM (a8.mp hx) λv hv e2r=>?_
  refine aM (hall v (av (bz.mp hv))) λi hi ei=>?_
  rw[<-e2r]
  rw[ei]
  exact bz.mpr hi
 have hl:=hnd.length_le_of_subset hsub
 rw[ar,eO,eO] at hl
 exact bv hl hk
theorem nL.step{mask:Nat}{hs:List Int}{owner:FZ}{k:Nat}(ok:hY mask)(O:nL mask hs owner k)(hk:k<=mask)(hl:k<hs.length) :
  ∃j,fY mask owner (jV mask) (dB (hs.getD k 0) % (mask+1)) (dB (hs.getD k 0))=some j/\nL mask hs (owner.setIfInBounds j (some k)) (k+1):=by
 refine aM (Em O hk) λv hv e=>?_
 refine aM (Bf ok (hs.getD k 0) hv) λg hg eg=>?_
 obtain⟨j,r,a1,_,a3,a4,a5⟩:=Bh (owner:=owner) (hs.getD k 0) (jV mask) 0 (lz g (aH _) (ah (Z hg (am (rN 13 mask))) (Nat.add_lt_add_left (by decide:13<15) mask)) (by rw[eg]; exact e))
 have hj:j<=mask:=a3▸vM mask _ r
 have get':∀u,(owner.setIfInBounds j (some k)).getD u (some 0)=if u=j then some k else owner.getD u (some 0):=λu=>by
  rw[aX,Array.getElem?_setIfInBounds]
  by_cases q:u=j
  ·rw[if_pos q.symm,if_pos q,if_pos (by rw[O.size]; exact bJ ‹_›)]; rfl
  ·rw[if_neg (λx=>q x.symm),if_neg q,aX]
 have keep:∀u,owner.getD u (some 0)≠none->(owner.setIfInBounds j (some k)).getD u (some 0)≠none:=λu hu=>by
  rw[get']
  split
  ·exact λx=>nomatch x
  ·exact hu
 refine⟨j,a1,by rw[Array.size_setIfInBounds]; exact O.size,λu i hu hi=>?_,λi hi=>?_,λu w i hu hw e1 e2=>?_⟩
 ·rw[get'] at hi
  by_cases q:u=j
  ·rw[if_pos q] at hi; cases hi; exact bU k
  ·rw[if_neg q] at hi; exact cx (O.lt u i hu hi)
 ·by_cases q:i=k
  ·rw[q]
   exact⟨j,hj,by rw[get',if_pos rfl],r,a3,λm hm=>keep _ (a5 m (aH _) hm)⟩
  ·obtain⟨u,b1,b2,r',b3,b4⟩:=O.has i (aG (av hi) q)
   exact⟨u,b1,by rw[get',if_neg (λx=>by rw[x,a4] at b2; cases b2)]; exact b2,r',b3,λm hm=>keep _ (b4 m hm)⟩
 ·rw[get'] at e1 e2
  by_cases q1:u=j
  ·rw[if_pos q1] at e1
   have:k=i:=aw e1
   subst this
   by_cases q2:w=j
   ·exact q1.trans q2.symm
   ·rw[if_neg q2] at e2
    exact absurd (O.lt w k hw e2) (eU k)
  ·rw[if_neg q1] at e1
   by_cases q2:w=j
   ·rw[if_pos q2] at e2
    have:k=i:=aw e2
    subst this
    exact absurd (O.lt u k hu e1) (eU k)
   ·rw[if_neg q2] at e2
    exact O.inj u w i hu hw e1 e2
noncomputable def ph(mask:Nat)(acc:Option (FZ×Nat))(h:Int):Option (FZ×Nat):=do
  let (owner,k) <-acc
  let j <-fY mask owner (jV mask) (dB h % (mask+1)) (dB h)
  pure (owner.setIfInBounds j (some k),k+1)
theorem EB{mask:Nat}{hs:List Int}(ok:hY mask)(hn:hs.length<=mask)(rest:List Int):∀(owner:FZ)(k:Nat),hs.drop k=rest->nL mask hs owner k->k<=hs.length->∃owner',rest.foldl (ph mask) (some (owner,k))=some (owner',hs.length)/\nL mask hs owner' hs.length:=by
 induction rest with
 | nil=>
  intro owner k hd O hk
  have:hs.length<=k:=List.drop_eq_nil_iff.mp hd
  have:k=hs.length:=by exact ck ‹_› ‹_›
  rw[<-this]
  exact a0 owner rfl O
 | cons h rest ih=>
  intro owner k hd O hk
  have hlt:k<hs.length:=by
   apply Classical.byContradiction
   intro q
   rw[iE (by exact aF ‹_›)] at hd; cases hd
  rw[gF hlt] at hd
  injection hd with e1 e2
  refine aM (O.step ok (by exact lc 1 0 0 0 0 0 hlt hn rfl) hlt) λj a1 a2=>?_
  have eh:hs.getD k 0=h:=by rw[bL,aI hlt]; exact e1
  rw[eh] at a1
  refine aM (ih _ (k+1) e2 a2 hlt) λowner' b1 b2=>?_
  refine a0 owner' ?_ b2
  simp only[nr]
  have:ph mask (some (owner,k)) h=some (owner.setIfInBounds j (some k),k+1):=by
   dsimp only[ph]
   simp only[Option.bind_eq_bind,F5,a1]
   rfl
  rw[this]; exact b1
theorem xr{mask:Nat}{hs:Array Int}(ok:hY mask)(hn:hs.size<=mask):∃owner,kH mask hs=some owner/\nL mask hs.toList owner hs.size:=by
 have O0:nL mask hs.toList (m7 (mask+1) none) 0:=by
  have g:∀v,v<=mask->(m7 (mask+1) (none:Option Nat)).getD v (some 0)=none:=λv hv=>by
   have:v<mask+1:=by exact bJ ‹_›
   simp[cC,this]
  refine⟨by simp,λv i hv e=>?_,λi hi=>absurd hi (cF _),λv u i hv J e J=>?_⟩
  ·rw[g v hv] at e; cases e
  ·rw[g v hv] at e; cases e
 refine aM (EB ok (by rw[aP]; exact hn) hs.toList _ 0 rfl O0 (aH _)) λowner a1 a2=>?_
 have:hs.toList.foldl (ph mask) (some (m7 (mask+1) none,0))=some (owner,hs.size):=a1
 refine a0 owner ?_ a2
 dsimp only[kH]
 rw[<-Array.foldl_toList]
 show(hs.toList.foldl (ph mask) (some (m7 (mask+1) none,0))).map (·.1)=_
 rw[this]; rfl
noncomputable def eY(mask:Nat)(owner:FZ):List (Nat×Nat):=(dh (mask+1)).filterMap λj=>(owner.getD j none).map (j,·)
theorem gP{mask:Nat}{hs:List Int}{owner:FZ}{k:Nat}(O:nL mask hs owner k){p:Nat×Nat}:p∈eY mask owner↔p.1<=mask/\owner.getD p.1 (some 0)=some p.2:=by
 have e:∀j,j<=mask->owner.getD j none=owner.getD j (some 0):=λj hj=>by
  have:j<owner.size:=by rw[O.size]; exact bJ ‹_›
  simp[cC,this]
 unfold eY
 rw[List.mem_filterMap]
 constructor
 ·rintro⟨j,hj,h⟩
  have hj':=av (bz.mp hj)
  rw[e j hj'] at h
  refine aM (aY.mp h) λi hi e2r=>?_
  rw[<-e2r]
  exact⟨hj',hi⟩
 ·intro hq
  refine eV hq λh1 h2=>?_
  exact a0 p.1 (bz.mpr (bJ h1)) (by rw[e _ h1,h2]; rfl)
theorem sQ(mask:Nat)(owner:FZ):(eY mask owner).Pairwise λp q=>p.1<q.1:=by
 unfold eY
 rw[List.pairwise_filterMap]
 refine List.Pairwise.imp ?_ AG
 intro a b hab p hp q hq
 refine aM (aY.mp hp) λJ J e2r=>?_
 rw[<-e2r]
 refine aM (aY.mp hq) λJ J e2r=>?_
 rw[<-e2r]
 exact hab
theorem zg{mask:Nat}{hs:List Int}{owner:FZ}{k:Nat}(O:nL mask hs owner k):((eY mask owner).map (·.2)).Perm (dh k):=by
 refine(List.perm_ext_iff_of_nodup ?_ tG).mpr λi=>?_
 ·have:=sQ mask owner
  rw[wm,iC]
  refine qS ?_ this
  intro p q hp hq hlt e
  obtain⟨q1,q2⟩:=(gP O).mp hq
  obtain⟨p1,p2⟩:=(gP O).mp hp
  have:=O.inj p.1 q.1 p.2 p1 q1 p2 (e▸q2)
  exact bv (l1 0 0 1 1 (am this.symm) rfl) hlt
 ·rw[a8,bz]
  constructor
  ·rintro⟨p,hp,rfl⟩
   obtain⟨p1,p2⟩:=(gP O).mp hp
   exact O.lt _ _ p1 p2
  ·intro hi
   refine lL (O.has i hi) λv h1 h2 J=>?_
   exact a0 (v,i) ((gP O).mpr ⟨h1,h2⟩) rfl
theorem G9{mask finger moves:Nat}{led plain:Bool}{es:Array (Int×Value)}(ok:hY mask)(hn:es.size<=mask):∃t order,iQ mask finger moves led plain (es.map (·.1))=some (t,order)/\t.mask=mask/\t.led=led/\t.plain=plain/\
  ((order.filterMap (es[·]?)).toList.Perm es.toList)/\kD t ((order.filterMap (es[·]?)).map (·.1)):=by
 have hhs:(es.map (·.1)).size=es.size:=ew
 refine aM (xr (hs:=es.map (·.1)) ok (by rw[hhs]; exact hn)) λowner a1 O=>?_
 rw[hhs] at O
 refine G3 { mask,place:=((eY mask owner).map (·.1)).toArray,dummies:=#[],finger,led,moves,plain } (((eY mask owner).map (·.2)).toArray) ?_ rfl rfl rfl ?_
 ·unfold iQ
  rw[a1]; rfl
 have hperm:=zg O
 have hlen:(eY mask owner).length=es.size:=by
  have:=hperm.length_eq
  rwa [ar,eO] at this
 have hfm:(((eY mask owner).map (·.2)).toArray.filterMap (es[·]?)).toList=(eY mask owner).map λp=>es.getD p.2 (0,.none):=by
  simp only[Array.toList_filterMap,List.filterMap_map]
  have:∀l:List (Nat×Nat),(∀p∈l,p.2<es.size)->l.filterMap ((λx=>es[x]?) ∘ λx=>x.2)=l.map λp=>es.getD p.2 (0,.none):=by
   intro l
   induction l with
   | nil=>intro _; rfl
   | cons p l ih=>
    intro hl
    have hp:=hl p (.head _)
    have hq:((λx=>es[x]?) ∘ λx=>x.2) p=some es[p.2]:=bR hp
    rw[pI,bQ,ih λq hq=>hl q (.tail _ hq)]
    simp[cC,hp]
  refine this _ λp hp=>?_
  obtain⟨p1,p2⟩:=(gP O).mp hp
  exact O.lt _ _ p1 p2
 have hsz:(((eY mask owner).map (·.2)).toArray.filterMap (es[·]?)).size=es.size:=by
  rw[<-aP,hfm,ar,hlen]
 refine⟨?_,rfl,?_,?_,?_,?_,ok,?_⟩
 ·rw[hfm]
  rw[(show(eY mask owner).map (λp=>es.getD p.2 (0,.none))=((eY mask owner).map (·.2)).map λi=>es.getD i (0,.none) from by rw[ef]; rfl)]
  refine(hperm.map _).trans ?_
  have:(dh es.size).map (λi=>es.getD i (0,.none))=es.toList:=by
   apply rx
   intro i
   rw[bB]
   by_cases hi:i<es.size
   ·rw[pH hi]; simp[cC,hi]
   ·rw[cQ (by simpa using hi),cQ (by simpa using hi)]; rfl
  rw[this]
 ·rw[ew,hsz,ao,ar,hlen]
 all_goals (have hgp:∀i,i<(eY mask owner).length->((eY mask owner).map (·.1)).toArray.getD i 0=((eY mask owner).getD i (0,0)).1:=λi hi=>by simp[cC,hi])
 ·intro i j hij hj
  have hj':j<(eY mask owner).length:=by simpa using hj
  have:=lx.mp (sQ mask owner) i j (by exact lc 1 0 1 0 1 0 hij hj' rfl) hj' hij
  have hi':=cI hij hj'
  simp only[hgp i hi',hgp j hj']
  simpa [hi',hj'] using this
 ·intro i hi
  have hi':i<(eY mask owner).length:=by simpa using hi
  rw[hgp i hi']
  have:=((gP O).mp (gu hi')).1
  simpa [hi'] using this
 ·rw[ao,ar,hlen]; exact hn
 ·intro i hi
  have hi':i<(eY mask owner).length:=by simpa using hi
  have hm:=(gP O).mp (gu hi')
  have hidx:=O.lt _ _ hm.1 hm.2
  obtain⟨v,b1,b2,r,b3,b4⟩:=O.has _ hidx
  have hv:=O.inj _ _ _ b1 hm.1 b2 hm.2
  have ehs:(((((eY mask owner).map (·.2)).toArray.filterMap (es[·]?)).map (·.1))).getD i 0=((es.map (·.1)).toList).getD ((eY mask owner)[i]).2 0:=by
   have e1:((((eY mask owner).map (·.2)).toArray.filterMap (es[·]?)).map (·.1)).toList=(eY mask owner).map λp=>(es.getD p.2 (0,.none)).1:=by
    rw[Ge,hfm,ef]; rfl
   have e2:∀(a:Array Int),a.getD i 0=a.toList.getD i 0:=λa=>by simp[aX,bL]
   simp only[e2,e1,bL,bB,aI hi',bL]
   simp[aX,hidx]
  simp only[ehs]
  refine a0 r ?_ (λm hm'=>?_)
  ·rw[b3,hv]; simp[hi']
  ·cases q:owner.getD (et mask (((es.map (·.1)).toList).getD ((eY mask owner)[i]).2 0) m).j (some 0) with
   | none=>exact absurd q (b4 m hm')
   | some x=>
    obtain⟨k,hk,ek⟩:=C5.mp ((gP O (p:=((et mask (((es.map (·.1)).toList).getD ((eY mask owner)[i]).2 0) m).j,x))).mpr ⟨vM mask _ m,q⟩)
    refine a0 k (by simpa using hk) ?_
    show((eY mask owner).map (·.1)).toArray.getD k 0=_
    rw[hgp k hk]
    simp[hk,ek]
section
variable{prog:Program}{w:World}{A:Around}{E:Value->Shared->Prop}{s:Shared}
set_option smartUnfolding false in
theorem Eo{a:Addr}{vs:List Value}{n:Nat}{Q:Bool->Shared->Prop}(hg:s.heap.get? a=some (aN vs))(h:Q false s)
  (loop:∀(R:Option Bool×Unit->Shared->Prop),R (none,()) s->wpAny (model prog w) A (forIn vs ((none:Option Bool),()) λy r=>do
   let b <-ofAClassStatement n y
   if b=true then pure (ForInStep.done (some true,())) else pure (ForInStep.yield (none,()))) R E s):wpAny (model prog w) A (ofAClassStatement (n+1) (.ref a)) Q E s:=by
 refine(show wpAny (model prog w) A (typeOf (.ref a)>>=_) Q E s from ?_)
 refine bx (λJ=>wpAny_typeOf (a0 _ hg rfl)) ?_
 refine wpAny_bind ?_
 refine wpAny_pure ?_
 refine bx (λJ=>wpAny_seqItems hg rfl) ?_
 refine wpAny_bind ?_
 show wpAny _ _ (forIn vs.toArray _ _) _ _ s
 rw[<-kJ]
 exact loop _ (wpAny_pure h)
theorem DN(k:KD):(∀(v:Value)(n:Nat)(Q:Bool->Shared->Prop),dz s.heap k v->gS false k<=n->Q false s->wpAny (model prog w) A (ofAClassStatement n v) Q E s)/\
  ∀(vs:List Value)(n:Nat)(R:Option Bool×Unit->Shared->Prop),jc s.heap k vs->gS true k<=n->R (none,()) s->wpAny (model prog w) A (forIn vs ((none:Option Bool),()) λy r=>do
   let b <-ofAClassStatement n y
   if b=true then pure (ForInStep.done (some true,())) else pure (ForInStep.yield (none,()))) R E s:=by
 induction k with
 | i _=>exact⟨λv n Q x J h=>ik x λt e=>by subst e; cases n<;>exact wpAny_pure h,λJ J J x=>x.elim⟩
 | s _=>exact⟨λv n Q x J h=>ik x.2 λt e=>by subst e; cases n<;>exact wpAny_pure h,λJ J J x=>x.elim⟩
 | nil=>exact⟨λv n Q x hn h=>aM x λa e hg=>by
   subst e
   cases n with
   | zero=>exact zn hn
   | succ n=>exact Eo hg h λR hR=>wpAny_pure hR,λvs n R x J h=>by cases x; exact wpAny_pure h⟩
 | cons p q ihp ihq=>
  have lst:∀(u:Value)(r:List Value)(n:Nat)(R:Option Bool×Unit->Shared->Prop),dz s.heap p u->jc s.heap q r->max (gS false p) (gS true q)<=n->R (none,()) s->wpAny (model prog w) A (forIn (u::r) ((none:Option Bool),()) λy r=>do
   let b <-ofAClassStatement n y
   if b=true then pure (ForInStep.done (some true,())) else pure (ForInStep.yield (none,()))) R E s:=λu r n R h1 h2 hn hR=>by
   rw[eK]
   refine wpAny_bind (bx (λJ=>ihp.1 u n _ h1 (Z (fJ _ _) hn)) ?_)
   exact wpAny_pure (ihq.2 r n R h2 (Z (gE _ _) hn) hR)
  exact⟨λv n Q x hn h=>mL x λc u r e hg h1 h2=>by
   subst e
   cases n with
   | zero=>exact zn hn
   | succ n=>exact Eo hg h λR hR=>lst u r n R h1 h2 (fF hn) hR,λvs n R x hn h=>bD x λu r e h1 h2=>by subst e; exact lst u r n R h1 h2 hn h⟩
theorem AR(k:KD)(v:Value)(n:Nat)(Q:Bool->Shared->Prop):dz s.heap k v->gS false k<=n->Q false s->wpAny (model prog w) A (ofAClassStatement n v) Q E s:=(DN k).1 v n Q
theorem I4{k:KD}{a:Addr}{stored:List Value}{Q:Bool->Shared->Prop}(hk:jq s.heap k a)(hd:gS false k<=7)(hst:∀v∈stored,∃k' b,v=.ref b/\jq s.heap k' b/\gS false k'<=7)(h:Q false s):wpAny (model prog w) A (searchCouldBeSeen (.ref a) stored) Q E s:=by
 dsimp only[searchCouldBeSeen]
 refine wpAny_bind ?_
 refine wpAny_forIn_list _ (λrest r s'=>s'=s/\r=(none,())/\∀v∈rest,∃k' b,v=.ref b/\jq s.heap k' b/\gS false k'<=7) _ ?_ ?_ _ _ ⟨rfl,rfl,hst⟩
 ·rintro x rest r s' ⟨rfl,rfl,hr⟩
  refine bD (hr x List.mem_cons_self) λk' b e2r hb hd'=>?_
  subst e2r
  have tl:=λv hv=>hr v (List.mem_cons_of_mem _ hv)
  by_cases q:(a==b||(carriedByValue (.ref a)&&carriedByValue (.ref b)))=true
  ·dsimp only
   refine K8 q ?_
   exact wpAny_pure ⟨rfl,rfl,tl⟩
  ·dsimp only
   refine yq q ?_
   refine wpAny_bind (dz.quiet k _ 8 _ (dz.tup hk) (by first | exact lR hd | exact bJ hd) ?_)
   refine wpAny_bind (dz.quiet k' _ 8 _ (dz.tup hb) (by first | exact lR hd' | exact bJ hd') ?_)
   refine wpAny_bind (AR k _ 8 _ (dz.tup hk) (by first | exact lR hd | exact bJ hd) ?_)
   refine wpAny_bind (AR k' _ 8 _ (dz.tup hb) (by first | exact lR hd' | exact bJ hd') ?_)
   exact wpAny_pure ⟨rfl,rfl,tl⟩
 ·rintro r s' ⟨rfl,rfl,_⟩
  exact wpAny_pure h
def K2(w:World)(h:Heap)(es:Array (Int×Value)):Prop:=∀i,i<es.size->∃k a,es.getD i (0,.none)=(hashW w.params (md k),.ref a)/\jq h k a/\gS false k<=7
theorem K2.key{h:Heap}{es:Array (Int×Value)}(H:K2 w h es){i:Nat}(hi:i<es.size):∃k a,es[i]?=some (hashW w.params (md k),.ref a)/\jq h k a/\gS false k<=7:=by
 refine oq (H i hi) λk a e r=>?_
 refine rn k a ?_ r
 simp only[<-e,bR hi]
 simp[cC,hi]
def kE(h:Heap)(es:Array (Int×Value))(i:Nat)(k:KD):Prop:=∃a,(es.getD i (0,.none)).2=.ref a/\jq h k a
theorem kE.hash{h:Heap}{es:Array (Int×Value)}{i:Nat}{k:KD}(H:K2 w h es)(hi:i<es.size)(q:kE h es i k):(es.map (·.1)).getD i 0=hashW w.params (md k):=by
 refine aM q λb e hb=>bD (H i hi) λk' a' e' hk' J=>?_
 rw[e'] at e
 have e:=tJ e
 subst e
 rw[<-dz.inj (dz.tup hk') (dz.tup hb),show(es.map (·.1)).getD i 0=(es.getD i (0,.none)).1 by simp[cC,hi],e']
theorem kE.key{h:Heap}{es:Array (Int×Value)}{i:Nat}{k k':KD}{x:Int}{a':Addr}(e':es[i]?=some (x,.ref a'))(hk':jq h k' a')(q:kE h es i k):k'=k:=by
 refine aM q λb e hb=>?_
 rw[show es.getD i (0,.none)=(x,.ref a') by rw[aX,e']; rfl] at e
 have e:=tJ e
 subst e
 exact dz.inj (dz.tup hk') (dz.tup hb)
def HC(t:SetTable)(h:Heap)(es:Array (Int×Value))(k:KD)(hv:Int)(m:Nat):Prop:=∀r,r<m->∃i,i<t.place.size/\t.place.getD i 0=(et t.mask hv r).j/\¬kE h es i k
section
variable{t:SetTable}{h:Heap}{es:Array (Int×Value)}{k:KD}{hv:Int}{m L:Nat}
theorem HC.oth(ha:∀i,i<es.size->kE h es i k->(es.map (·.1)).getD i 0=hv)(hsz:t.place.size=es.size)(p:HC t h es k hv m)(o:IA t (es.map (·.1)) hv m L):HC t h es k hv L:=λr hr=>
 (Nat.lt_or_ge r m).elim (p r) λq=>lL (o r q hr) λi x y z=>lz i x y λka=>z (ha i (hsz▸x) ka)
theorem HC.none(T:kD t (es.map (·.1)))(ha:∀i,i<es.size->kE h es i k->(es.map (·.1)).getD i 0=hv)(hsz:t.place.size=es.size)(p:HC t h es k hv L)(c:Lj t hv L):∀i,i<es.size->¬kE h es i k:=λi hi ka=>by
 have hi':i<t.place.size:=hsz▸hi
 refine aM (T.reach i hi') λr x y=>?_
 rw[ha i hi ka] at x y
 have hrL:r<L:=by
  rcases fW r L with q | q | q
  ·exact q
  ·subst q; exact absurd x.symm (c i hi')
  ·exact aM (y L q) λi' z1 z2=>absurd z2 (c i' z1)
 refine lL (p r hrL) λi' z1 z2 z3=>?_
 exact z3 (T.rise.inj z1 hi' (z2.trans x)▸ka)
theorem HC.succ{i:Nat}(p:HC t h es k hv L)(hi:i<t.place.size)(e:t.place.getD i 0=(et t.mask hv L).j)(n:¬kE h es i k):HC t h es k hv (L+1):=λr hr=>
 (Nat.lt_or_eq_of_le (av hr)).elim (p r) λq=>lz i hi (q▸e) n
end
theorem Cb{α:Type}{M:Model}{c:Prop} [Decidable c]{m:Sem Bool}{u rest:Sem α}{Q:α->Shared->Prop}(h1:∀Q':Bool->Shared->Prop,Q' false s->wpAny M A m Q' E s)(h2:wpAny M A rest Q E s):wpAny M A (if c then(m>>=λb=>if b=true then u else rest) else rest) Q E s:=by
 by_cases h:c
 ·rw[if_pos h]; exact wpAny_bind (h1 _ (yq bM h2))
 ·rw[if_neg h]; exact h2
theorem GQ{S a:Addr}{es:Array (Int×Value)}{n:Nat}{t:SetTable}{k:KD}{Q:SetFound->Shared->Prop}(ho:s.heap.get? S=some (c0 es n t))(hf:t.fits es.size=true)(T:kD t (es.map (·.1)))(H:K2 w s.heap es)(hk:jq s.heap k a)(hd:gS false k<=7)(hu:A.units+20<cLine)
  (hthere:∀i,i<es.size->kE s.heap es i k->Q (.there none) s)
  (hfree:∀r,(∀i,i<t.place.size->t.place.getD i 0≠(et t.mask (hashW w.params (md k)) r).j)->(∀m,m<r->∃i,i<t.place.size/\t.place.getD i 0=(et t.mask (hashW w.params (md k)) m).j)->(∀i,i<es.size->¬kE s.heap es i k)->Q (.free (et t.mask (hashW w.params (md k)) r).j false) s) :
  wpAny (model prog w) A (setSearch S (.ref a) (hashW w.params (md k)) true) Q E s:=by
 have hsz:t.place.size=es.size:=by rw[T.size,ew]
 have ha:∀i,i<es.size->kE s.heap es i k->(es.map (·.1)).getD i 0=hashW w.params (md k):=λi hi q=>q.hash H hi
 generalize hashW w.params (md k)=hv at hfree ha
 refine aM (T.empty hv) λK hK hKe=>?_
 have hle:t.mask<=127:=T.mok.le
 have gw:¬t.gaveWay=true:=by unfold SetTable.gaveWay; rw[T.mok.odd]; decide
 have hpr:∀m,m<=K->yh t (es.map (·.1)) hv m K (t.probe (λi=>(es[i]?.map (·.1)).getD 0) hv (et t.mask hv m)):=λm hm=>Ee T (λi hi=>by simp[cC,show i<es.size from hsz▸hi]) hv hKe (10*jV t.mask) m hm (ah (Z (f9 _ _) hK) ((Nat.mul_lt_mul_left (by decide:0<10)).mpr (aL (oy (by decide:13<15) t.mask) (rN 15 t.mask))))
 suffices main:∀(fuel m:Nat)(stand:Option J8),m<=K->K - m<fuel->stand.getD (t.probeStart hv)=et t.mask hv m->HC t s.heap es k hv m->
   wpAny (model prog w) A (setSearchFrom S (.ref a) hv true fuel stand) Q E s from main 100000 0 none (aH _) (ah (Z (f9 _ _) (Z hK (j4 10 (au hle 13)))) (N rfl)) rfl λr h=>zn h
 intro fuel
 induction fuel with
 | zero=>exact λm stand J h=>zn h
 | succ fuel ih=>
  intro m stand hm hfu hst hbef
  refine bx (λJ=>wpAny_setState_of ho rfl hf) ?_
  refine yq gw ?_
  rw[hst]
  have P:=hpr m hm
  generalize e:t.probe _ hv (et t.mask hv m)=x
  replace P:yh t (es.map (·.1)) hv m K x:=e▸P
  clear e
  cases P with
  | empty L a1 a2 a3 a4 a5=>
   have p:=hbef.oth ha hsz a5
   subst a3
   exact wpAny_pure (hfree L a4 (λr hr=>lL (p r hr) λi x y J=>a0 i x y) (p.none T ha hsz a4))
  | cand L i a1 a2 a3 a4 a5 a6 a7=>
   have p:=hbef.oth ha hsz a7
   have hi:i<es.size:=hsz▸a3
   refine bD (H.key hi) λk' a' e' hk' hd'=>?_
   subst a6
   refine Cb (λJ q=>I4 hk hd (λv hv=>?_) q) ?_
   ·refine aM (a8.mp hv) λe he e'=>?_
    rw[<-e']
    obtain⟨j,hj,rfl⟩:=Array.mem_iff_getElem.mp (Array.mem_filter.mp (Array.mem_toList_iff.mp he)).1
    refine bD (H.key hj) λk2 a2 e2 h2 d2=>?_
    rw[bR hj] at e2
    exact bX k2 a2 (congrArg _ (aw e2)) h2 d2
   ·rw[e']
    refine bx (λJ q=>wpAny_holding (dz.eqBool (dz.tup hk') (dz.tup hk) (ux hu hd') q)) ?_
    refine bx (λJ=>wpAny_setState_of ho rfl hf) ?_
    by_cases q:k'=k
    ·rw[decide_eq_true q]
     exact wpAny_pure (hthere i hi (a0 a' (by rw[aX,e']; rfl) (q▸hk')))
    ·rw[decide_eq_false q]
     refine yq bM ?_
     have p':=p.succ a3 a4 λka=>q (ka.key e' hk')
     have hsm:t.sameMemory t.moves t.mask=some true:=by unfold SetTable.sameMemory; rw[if_pos (by simp)]
     rw[hsm]
     dsimp only
     rw[if_pos rfl,<-a4,nc T.rise a3]
     dsimp only
     rw[e']
     refine wpAny_bind ?_
     unfold isSame
     refine K8 (by simp) (wpAny_pure ?_)
     refine bx (λJ=>wpAny_pure) ?_
     refine yq bM ?_
     exact ih (L+1) (some _) a2 (af (ox _ _ a2) (Z (Nat.sub_le_sub_left a1 K) (av hfu))) rfl p'
end
structure uP(w:World)(h:Heap)(S:Addr)(es:Array (Int×Value))(n:Nat)(t:SetTable):Prop where
 obj:h.get? S=some (c0 es n t)
 led:t.led=!w.params.followText "set-order"
 pl:t.plain=false∨es.size=0
 tab:kD t (es.map (·.1))
 full:es.size*5<t.mask*3
 mask:t.mask=7∨t.mask=31∨t.mask=127
structure kO(w:World)(h:Heap)(S:Addr)(ks:List KD)(vs:List Value):Prop where
 kts:nA h ks vs
 nodup:ks.Nodup
 dep:∀k∈ks,gS false k<=7
 is:∃es n t,uP w h S es n t/\es.toList.Perm ((ks.zip vs).map λp=>(hashW w.params (md p.1),p.2))
noncomputable def fE(ks:List KD)(k:KD):List KD:=if k∈ks then ks else ks++[k]
noncomputable def yb(ks:List KD)(vs:List Value)(k:KD)(v:Value):List Value:=if k∈ks then vs else vs++[v]
theorem nA.snoc{h:Heap}{k:KD}{a:Addr}(hk:jq h k a){ks:List KD}:∀{vs:List Value},nA h ks vs->nA h (ks++[k]) (vs++[.ref a]):=by
 induction ks with
 | nil=>exact @λJ e=>by have e:_=[]:=e; rw[e]; exact bX a [] rfl hk rfl
 | cons _ _ ih=>
  intro _ z1
  refine bD z1 λb r e h1 h2=>?_
  exact by rw[e]; exact bX b (r++[.ref a]) rfl h1 (ih h2)
theorem nA.zipMem{h:Heap}{ks:List KD}:∀{vs:List Value},nA h ks vs->∀p∈ks.zip vs,p.1∈ks/\∃a,p.2=.ref a/\jq h p.1 a:=by
 induction ks with
 | nil=>exact @λJ J J hp=>by cases hp
 | cons k ks ih=>
  intro vs z p hp
  refine bD z λa r e h1 h2=>?_
  subst e
  rcases aE.mp hp with rfl | hp
  ·exact⟨.head _,a,rfl,h1⟩
  ·exact(ih h2 p hp).imp (.tail _) id
theorem nA.memZip{h:Heap}{k:KD}{ks:List KD}:∀{vs:List Value},nA h ks vs->k∈ks->∃v,(k,v)∈ks.zip vs:=by
 induction ks with
 | nil=>exact @λJ J hk=>by cases hk
 | cons k' ks ih=>
  intro vs z hk
  refine bD z λa r e h1 h2=>?_
  subst e
  rcases aE.mp hk with rfl | hk
  ·exact⟨_,.head _⟩
  ·exact ik (ih h2 hk) λv hv=>⟨v,.tail _ hv⟩
theorem sR{α:Type}(xs:Array α)(p:Nat)(x:α):(bE xs p x).toList.Perm (xs.toList++[x]):=by
 have:=SetTable.insertAt_perm xs p x
 rwa [qU] at this
section
variable{prog:Program}{w:World}{A:Around}{E:Value->Shared->Prop}{s:Shared}
theorem JC{k:KD}{a:Addr}{n:Nat}{Q:Bool->Shared->Prop}(hk:jq s.heap k a)(hf:mR true k=true)(h:Q false s):wpAny (model prog w) A (hashByValue (n+1) (.ref a)) Q E s:=by
 obtain⟨vs,hg,hi⟩:=hk
 cases k with
 | cons p q=>
  cases p with
  | s y=>
   obtain⟨u,r,rfl,⟨_,t,rfl⟩,_⟩:=hi
   have e:hashByValue n (ym y t)=pure false:=by cases n<;>(rfl)
   refine bx (λJ=>wpAny_specialOf (a0 _ hg rfl) PySem.F.slot_tuple_hash.lookup) ?_
   refine bx (λJ=>wpAny_seqItems hg rfl) ?_
   refine wpAny_bind ?_
   rw[<-kJ]
   show wpAny _ _ (forIn (ym y t::r) _ _) _ _ s
   rw[eK]
   rw[e]
   refine wpAny_bind (bx (λJ=>wpAny_pure) ?_)
   exact wpAny_pure (wpAny_pure (wpAny_pure h))
  | _=>cases hf
 | _=>cases hf
theorem yz{S:Addr}{ks:List KD}{vs:List Value}{h:Heap}{es:Array (Int×Value)}(H:nA h ks vs)(hd:∀k∈ks,gS false k<=7)(hp:es.toList.Perm ((ks.zip vs).map λp=>(hashW w.params (md p.1),p.2))):K2 w h es:=λi hi=>by
 refine aM (a8.mp (hp.mem_iff.mp (show es[i]∈es.toList from by simp))) λp hp1 hp2=>?_
 obtain⟨x,a,e,hk⟩:=H.zipMem p hp1
 refine bX p.1 a ?_ hk (hd _ x)
 rw[show es.getD i (0,.none)=es[i] by simp[cC,hi],<-hp2,e]
theorem xP{t:SetTable}{hs:Array Int}{n:Nat}(T:kD t hs)(hn:hs.size=n):t.fits n=true:=by
 have:=T.room
 delta nM Ga
 simp only[T.dum,T.size,hn]
 rw[T.size,hn] at this
 simp[this]
theorem w0:gM (cN 5)=32:=by decide
theorem wZ:gM (cN 19)=128:=by decide
theorem vS(es:Array (Int×Value)){p:Nat}(hp:p<=es.size)(x:Int×Value):(bE es p x).map (·.1)=bE (es.map (·.1)) p x.1:=by
 apply Array.ext_getElem?
 intro i
 rw[pO,lN es hp,lN _ (by rw[ew]; exact hp),pO,pO]
 split
 ·rfl
 ·split<;>rfl
theorem uP.fits{h:Heap}{S:Addr}{es:Array (Int×Value)}{n:Nat}{t:SetTable}(T:uP w h S es n t):t.fits es.size=true:=xP T.tab ew
theorem uP.size{h:Heap}{S:Addr}{es:Array (Int×Value)}{n:Nat}{t:SetTable}(T:uP w h S es n t):t.place.size=es.size:=T.tab.size.trans ew
theorem I9{S:Addr}{es:Array (Int×Value)}{n M want:Nat}{t:SetTable}{Q:Unit->Shared->Prop}(hg:s.heap.get? S=some (c0 es n t))(T:kD t (es.map (·.1)))(hM:gM want=M+1)(ok:hY M)(hle:es.size<=M)(hM7:M<=127)
  (h:∀es2 t2,es2.size=es.size->t2.mask=M->t2.led=t.led->t2.plain=t.plain->es2.toList.Perm es.toList->kD t2 (es2.map (·.1))->Q () { s with heap:=s.heap.update S (ig es2 t2) }):wpAny (model prog w) A (setRelay S want) Q E s:=by
 unfold setRelay
 refine wpAny_bind (wpAny_setState_of hg rfl (xP T ew) ?_)
 dsimp only
 refine yq (by rw[hM,sizeLine_eq]; exact bv (l1 0 127 2 16777217 hM7 rfl)) ?_
 have hrel:t.relaid (es.map (·.1)) want=iQ M t.finger (t.movedTo M) t.led t.plain (es.map (·.1)):=by
  unfold C8
  rw[hM]; rfl
 refine o26 (G9 (finger:=t.finger) (moves:=t.movedTo M) (led:=t.led) (plain:=t.plain) (es:=es) ok hle) λt2 order e1 e2 e3 e4 e5 T2=>?_
 rw[hrel,e1]
 have hz2:(order.filterMap (es[·]?)).size=es.size:=by rw[<-aP,e5.length_eq,aP]
 refine wpAny_bind (yq (by simp[hz2]) (wpAny_pure ?_))
 exact wpAny_storeSet_of hg rfl (h _ t2 hz2 e2 e3 e4 e5 T2) (by rw[hz2,sizeLine_eq]; exact lc 0 0 0 127 0 16777216 hle (l1 0 127 0 127 hM7 rfl) rfl)
theorem zo{m k:Nat}(hm:m=7∨m=31∨m=127)(h1:k*5<m*3)(h2:m*3<=(k+1)*5)(h3:k<60):∃M,gM (cN (k+1))=M+1/\hY M/\k+1<=M/\M<=127/\(k+1)*5<M*3/\(M=7∨M=31∨M=127):=by
 rcases hm with rfl | rfl | rfl
 ·have:k=4:=ck (av (gd (a:=5) (af h1 (by decide:7*3<=5*5)))) (av (gd (a:=5) (af (by decide:4*5<7*3) h2)))
  subst this
  exact⟨31,w0,Ju,by decide,by decide,by decide,.inr (.inl rfl)⟩
 ·have:k=18:=ck (av (gd (a:=5) (af h1 (by decide:31*3<=19*5)))) (av (gd (a:=5) (af (by decide:18*5<31*3) h2)))
  subst this
  exact⟨127,wZ,G1,by decide,by decide,by decide,.inr (.inr rfl)⟩
 ·exact absurd (Z h2 (Dc 5 (lQ h3))) (by decide)
theorem Jb{S:Addr}{es es1:Array (Int×Value)}{n k:Nat}{t t1:SetTable}{Q:Bool->Shared->Prop}(ho:s.heap.get? S=some (c0 es n t))(T1:kD t1 (es1.map (·.1)))(hz:es1.size=k+1)(hk:k<60)(hm:t1.mask=7∨t1.mask=31∨t1.mask=127)(hf:k*5<t1.mask*3)(hl:t1.led=!w.params.followText "set-order")(hp:t1.plain=false)
  (h:∀h' es2 n2 t2,bC S s.heap h'->uP w h' S es2 n2 t2->es2.toList.Perm es1.toList->Q true { s with heap:=h' }) :
  wpAny (model prog w) A (do
    storeSet S es1 t1
    if (!false&&t1.tooFull)=true then do
     setRelay S (cN (k+1))
     pure true
    else pure true) Q E s:=by
 have hps:t1.place.size=k+1:=(T1.size.trans ew).trans hz
 have hfill:t1.fill=k+1:=by unfold Ga; rw[T1.dum,hps]; rfl
 have hg1:(s.heap.update S (ig es1 t1)).get? S=some (c0 es1 (n+1) t1):=ay (ig es1 t1) ho rfl
 have hs1:=aD s.heap S (ig es1 t1)
 refine bx (λJ q=>wpAny_storeSet_of ho rfl q (by rw[hz,sizeLine_eq]; exact l1 1 60 1 16777216 hk rfl)) ?_
 by_cases htf:t1.tooFull=true
 ·refine K8 htf ?_
  have htf':t1.mask*3<=(k+1)*5:=by unfold C1 at htf; rw[hfill] at htf; simpa using htf
  obtain⟨M,c1,c2,c3,c4,c5,c6⟩:=zo hm hf htf' hk
  refine wpAny_bind (I9 hg1 T1 c1 c2 (hz▸c3) c4 λes2 t2 d1 d2 d3 d4 d5 d6=>?_)
  exact wpAny_pure (h _ es2 _ t2 (hs1.trans (aD _ S _)) ⟨ay (ig _ t2) hg1 rfl,d3.trans hl,.inl (d4.trans hp),d6,by rw[d1,hz,d2]; exact c5,by rw[d2]; exact c6⟩ d5)
 ·refine yq htf (wpAny_pure (h _ es1 _ t1 hs1 ⟨hg1,hl,.inl hp,T1,?_,hm⟩ (.refl _)))
  unfold C1 at htf
  rw[hfill] at htf
  rw[hz]
  have:=of_decide_eq_false (iG.mpr htf)
  exact dJ λh=>absurd h ‹_›
theorem yy{S:Addr}{ks:List KD}{vs:List Value}{h:Heap}{es:Array (Int×Value)}{k:KD}{i:Nat}(K:nA h ks vs)(p:es.toList.Perm ((ks.zip vs).map λp=>(hashW w.params (md p.1),p.2)))(hi:i<es.size)(q:kE h es i k):k∈ks:=aM q λb e hb=>by
 refine aM (a8.mp (p.mem_iff.mp (show es[i]∈es.toList from by simp))) λp hp1 hp2=>?_
 obtain⟨x,c,e2,hc⟩:=K.zipMem p hp1
 rw[show es.getD i (0,.none)=es[i] by simp[cC,hi],<-hp2] at e
 have e:=tJ (e2.symm.trans e)
 subst e
 exact dz.inj (dz.tup hc) (dz.tup hb)▸x
theorem yx{S:Addr}{ks:List KD}{vs:List Value}{h:Heap}{es:Array (Int×Value)}{k:KD}(K:nA h ks vs)(p:es.toList.Perm ((ks.zip vs).map λp=>(hashW w.params (md p.1),p.2)))(hin:k∈ks):∃i,i<es.size/\kE h es i k:=by
 refine ik (K.memZip hin) λv hv=>?_
 obtain⟨_,c,e2,hc⟩:=K.zipMem _ hv
 obtain⟨i,hi,ei⟩:=C5.mp (p.mem_iff.mpr (a8.mpr (a0 _ hv rfl)):(hashW w.params (md k),v)∈es.toList)
 have hi':i<es.size:=by simpa using hi
 refine⟨i,hi',c,?_,hc⟩
 rw[show es.getD i (0,.none)=es.toList[i] by simp[cC,hi'],ei]; exact e2
theorem JT{S a:Addr}{ks:List KD}{vs:List Value}{k:KD}{Q:Bool->Shared->Prop}(H:kO w s.heap S ks vs)(hk:jq s.heap k a)(hd:gS false k<=7)(hf1:mR true k=true)(hlen:ks.length<60)(hu:A.units+20<cLine)
  (h:∀b h',bC S s.heap h'->kO w h' S (fE ks k) (yb ks vs k (.ref a))->Q b { s with heap:=h' }) :
  wpAny (model prog w) A (setAddHashed S (.ref a) (hashW w.params (md k))) Q E s:=by
 refine wo H.is λes n t T hperm=>?_
 have hsz:es.size=ks.length:=by
  have:=hperm.length_eq
  rw[ar,ID,<-H.kts.length,Bz,aP] at this
  exact this
 refine wpAny_holding (bx (λJ=>wpAny_setState_of T.obj rfl T.fits) ?_)
 refine yq bM ?_
 refine wpAny_bind (GQ (Q:=_) T.obj T.fits T.tab (yz (S:=S) H.kts H.dep hperm) hk hd hu (λi hi hka=>?_) λr hre hrp hno=>?_)
 ·have hin:=yy (S:=S) H.kts hperm hi hka
  refine wpAny_pure (h _ s.heap (wx S s.heap) ?_)
  delta fE yb
  rw[if_pos hin,if_pos hin]
  exact H
 ·have hnin:k∉ks:=λhin=>aM (yx (S:=S) H.kts hperm hin) λi hi hka=>hno i hi hka
  have e1:fE ks k=ks++[k]:=if_neg hnin
  have e2:yb ks vs k (.ref a)=vs++[.ref a]:=if_neg hnin
  rw[e1,e2] at h
  refine bx (λJ=>wpAny_setState_of T.obj rfl T.fits) ?_
  obtain⟨hp,T1⟩:=T.tab.put (pl:=false) (j:=(et t.mask (hashW w.params (md k)) r).j) (h:=hashW w.params (md k)) (vM _ _ _) hre (by rw[T.size]; exact dJ λq=>bv T.full (Z (Dc 3 q) (j4 _ (by decide)))) (a0 r rfl hrp)
  have hp':bd t.place (et t.mask (hashW w.params (md k)) r).j<=es.size:=T.size▸hp
  rw[show hashW w.params (md k)=((hashW w.params (md k),i4 a):Int×Value).1 from rfl,<-vS es hp'] at T1
  have fin:=λQ h=>Jb (prog:=prog) (A:=A) (E:=E) (s:=s) (Q:=Q) T.obj T1 (gl es hp' _) (hsz▸hlen) T.mask T.full T.led rfl h
  have fin:=fin Q λh' es2 n2 t2 hs2 T2 p2=>h true h' hs2 ⟨?_,?_,?_,es2,n2,t2,T2,?_⟩
  ·refine wpAny_ite_split (λJ=>bx (λJ=>JC hk hf1) fin) (λq=>bx (λJ=>wpAny_pure) ?_)
   have q':(t.put (et t.mask (hashW w.params (md k)) r).j).1.plain=false:=iG.mpr q
   have e:(t.put (et t.mask (hashW w.params (md k)) r).j).1={ (t.put (et t.mask (hashW w.params (md k)) r).j).1 with plain:=false }:=by rw[<-q']
   rw[<-e] at fin
   exact fin
  ·have keep:=uw T.obj (by show b9 "set"≠_; decide) hs2
   exact(H.kts.keeps keep).snoc (hk.keeps keep)
  ·rw[lA]
   exact⟨H.nodup,by simp,λx hx y hy e=>hnin (by rw[dH] at hy; rw[<-hy,<-e]; exact hx)⟩
  ·intro x hx
   rcases jW.mp hx with hx | hx
   ·exact H.dep x hx
   ·rw[dH] at hx; rw[hx]; exact hd
  ·refine p2.trans ((sR es _ _).trans ?_)
   simp only[List.zip_append H.kts.length,dX]
   exact hperm.append_right _
end
section
variable{prog:Program}{w:World}{A:Around}{E:Value->Shared->Prop}{s:Shared}{a:Addr}{vs:List Value}
def wi(I:Nat->Heap->Prop):Prop:=∀i h h',I i h->(∀b o,h.get? b=some o->o.cls≠.type "list_iterator"->h'.get? b=some o)->I i h'
def wh(prog:Program)(w:World)(S:Addr)(u:Nat)(items:Array Value)(I:Nat->Heap->Prop):Prop:=
 ∀i (hi:i<items.size)(A:Around)(s:Shared)(Q:Bool->Shared->Prop)(E:Value->Shared->Prop),A.units<=u->I i s.heap->(∀b h' tk,bC S s.heap h'->I (i+1) h'->Q b { s with heap:=h',toks:=tk })->wpAny (model prog w) A (setAdd S items[i]) Q E s
theorem D2{R:Result->Shared->Prop}{S It l:Addr}{items:Array Value}{I:Nat->Heap->Prop}{u:Nat}(hh:A.handled=none)(hAu:A.units+1<=u)(hSI:S≠It)(hSl:S≠l)(hIl:It≠l)(hkeep:wi I)(hstep:wh prog w S u items I) :
  ∀(k i:Nat)(s:Shared),items.size - i=k->i<=items.size->s.heap.IsListIter It l i->s.heap.IsList l items->I i s.heap->
   (∀s',I items.size s'.heap->(∀b o,b≠S->b≠It->s.heap.get? b=some o->s'.heap.get? b=some o)->s'.gens=s.gens->s'.drawn=s.drawn->s'.os=s.os->R (.ok (.ret .none)) s')->
   codeAny (model prog w) A (.builtin "set.update.loop" ⟨[.ref S,.ref It],[]⟩) R s:=by
 intro k
 induction k with
 | zero=>
  intro i s hk hi hit hl hS hR
  refine lL (id hit) λoi hoi hci J=>?_
  have hin:i=items.size:=ck hi (cu hk)
  refine codeAny_builtin PyProof.Rows.F.entry_set_update_loop ?_
  refine wpAny_bind (wpAny_pyNext_list_end (by exact hh) hit hl (by rw[hin]; simp) λh' he=>?_)
  refine wpAny_pure (hR _ ?_ (λb o J hb e=>he b o hb e) rfl rfl rfl)
  simp only[<-hin]
  exact hkeep i _ _ hS λb o e hc=>he b o (λq=>by cases q; rw[hoi] at e; have e:=aw e; exact hc (e▸hci)) e
 | succ k ih=>
  intro i s hk hi hit hl hS hR
  refine lL (id hit) λoi hoi hci J=>?_
  have hlt:i<items.size:=je hk
  refine codeAny_builtin PyProof.Rows.F.entry_set_update_loop ?_
  refine wpAny_bind (wpAny_pyNext_list_item hit hl (x:=items[i]) (bR hlt) λh' hit' hs'=>?_)
  have hS':I i h':=hkeep i _ _ hS λb o e hc=>(hs'.2 b (λq=>by cases q; rw[hoi] at e; have e:=aw e; exact hc (e▸hci))).trans e
  refine wpAny_bind (wpAny_holding ?_)
  refine hstep i hlt A.in1 _ _ _ (by assumption) hS' λb h2 tk2 hs2 hS2=>?_
  have hl':h2.IsList l items:=(hl.extBut hs'.extBut (bA hIl)).extBut hs2.extBut (bA hSl)
  refine wpAny_pure ⟨plainId_quiet PyProof.Rows.F.plain_set_update_loop _,ih (i+1) _ (by rw[rM,hk]; rfl) hlt (hit'.at λo e=>(hs2.2 It (bA hSI)).trans e:h2.IsListIter It l (i+1)) hl' hS2 λs'' hS'' hk'' h1 h2 h3=>?_⟩
  exact hR s'' hS'' (λb o hb hb' e=>hk'' b o hb hb' ((hs2.2 b hb).trans ((hs'.2 b hb').trans e))) h1 h2 h3
set_option maxHeartbeats 3200000 in
theorem As{T newId initId:String}{args:List Value}{Q Q₁:Value->Shared->Prop}(ft:TypeCalled T newId initId)
  (hct:checkTypeCall T ⟨args,[]⟩=pure ())(hnew:codeAny (model prog w) A.in1 (.call (.builtin newId) ⟨.type T::args,[]⟩) (wants Q₁ E) s)
  (hnext:∀obj aQ,Q₁ obj aQ->aQ.TypeIs obj T/\codeAny (model prog w) A.in1 (.call (.builtin initId) ⟨obj::args,[]⟩) (wants (λr b8=>r=.none/\Q obj b8) E) aQ) :
  wpAny (model prog w) A (call (.type T) args) Q E s:=by
 obtain⟨c,tl,hmro⟩:=ft.mro
 have hmade:=ft.made
 have hsub:=ft.sub
 refine wpAny_call (codeAny_of_tree ?_)
 refine wpAny_pure ⟨Code.quiet_builtin _ (by decide+kernel),codeAny_builtin PySem.F.entry_type_call ?_⟩
 rw[Around.under_plain (weight_type_call_type T args []) rfl]
 have h1:=ft.notType
 have h2:=ft.canCreate
 repeat (any_goals (first | assumption | wp_step))
 refine codeAny_mono hnew λr aQ hr=>?_
 cases r with
 | error e=>exact hr
 | ok fl=>
  cases fl with
  | ret obj=>
   obtain⟨hT,hi⟩:=hnext _ _ hr
   clear hnew hnext
   have hli:=ft.init.lookup
   have hbi:=ft.init.bind obj
   repeat (any_goals (first | assumption | wp_step))
   refine codeAny_mono hi λr₂ b8 Do=>?_
   cases r₂ with
   | error e=>exact Do
   | ok Ko=>
    cases Ko with
    | ret r=>
     obtain⟨rfl,hq⟩:=Do
     repeat (any_goals (first | assumption | wp_step))
    | _=>exact Do.elim
  | _=>exact hr.elim
theorem GO{S l:Addr}{items:Array Value}{I:Nat->Heap->Prop}{u:Nat}{led:Bool}{R:Result->Shared->Prop}(hh:A.handled=none)(hS:s.heap.get? S=some { cls:=.type "set",dict:=none,data:=.set #[] 0 (.fresh 0 0 led) })(hl:s.heap.IsList l items)(hne:S≠l)(hAu:A.units+2<=u)(hkeep:wi I)(hstep:wh prog w S u items I)
  (h0:∀h',(∀b o,s.heap.get? b=some o->h'.get? b=some o)->I 0 h')
  (hR:∀s',I items.size s'.heap->(∀b o,b≠S->s.heap.get? b=some o->s'.heap.get? b=some o)->s'.gens=s.gens->s'.drawn=s.drawn->s'.os=s.os->R (.ok (.ret .none)) s') :
  wpAny (model prog w) A.in1 (Builtin.«set.__init__» ⟨[.ref S,.ref l],[]⟩) (λfin s'=>match fin with | .done f=>R (.ok f) s' | .again c'=>c'.quiet=true/\codeAny (model prog w) A c' R s') (λe s'=>R (.error e) s') s:=by
 have hl':=hl
 obtain⟨ol,hol,hcl,nl,hdl⟩:=hl'
 obtain⟨ocls,odict,odata,oslots⟩:=ol
 simp only at hcl hdl
 subst hcl; subst hdl
 have hsls:=PySem.F.sub_list_set
 have hslf:=PySem.F.sub_list_frozenset
 have hnd:(b9 "list"==b9 "dict")=false:=by decide
 unfold Builtin.«set.__init__» noKeywords IF
 generalize hPI:pyIter=PI
 wp_walk
 subst hPI
 refine wpAny_pyIter_list hl ?_
 refine wpAny_bind (wpAny_runValue ?_)
 have hlS:=aJ hS
 have hll:=aJ hol
 refine D2 (A:=A.in1) (l:=l) (u:=u) hh hAu (aB hlS) hne (bP hll) hkeep hstep (items.size - 0) 0 _ rfl (aH _) ?_ ?_ ?_ λs' hS' hk e1 e2 e3=>?_
 ·exact⟨_,ak _ rfl,rfl,rfl⟩
 ·exact hl.push _
 ·exact h0 _ λb o e=>ab _ e
 ·obtain⟨h',g',d',tk',os'⟩:=s'
  simp only at e1 e2 e3
  subst e1; subst e2; subst e3
  exact wpAny_pure (wpAny_pure (hR _ hS' (λb o hb e=>hk b o hb (aB (aJ e)) (ab _ e)) rfl rfl rfl))
theorem xW{l:Addr}{items:Array Value}{I:Nat->Heap->Prop}{u:Nat}{Q:Value->Shared->Prop}
  (hh:A.handled=none)(hl:s.heap.IsList l items)(hAu:A.units+10<=u)(hkeep:wi I)(hstep:wh prog w s.heap.objs.size u items I)
  (h0:∀h',h'.get? s.heap.objs.size=some (c0 #[] 0 (.fresh 0 0 (!w.params.followText "set-order")))->(∀b o,s.heap.get? b=some o->h'.get? b=some o)->I 0 h')
  (h:∀(h':Heap)(tk:Nat),I items.size h'->
   (∀b o,b<s.heap.objs.size->s.heap.get? b=some o->h'.get? b=some o)->Q (.ref s.heap.objs.size) { s with heap:=h',toks:=tk }) :
  wpAny (model prog w) A (call (.type "set") [.ref l]) Q E s:=by
 refine As (Q₁:=λobj aQ=>obj=.ref s.heap.objs.size/\aQ={ s with heap:=s.heap.push (c0 #[] 0 (.fresh 0 0 (!w.params.followText "set-order"))) }) PySem.F.called_set (PySem.F.typeCall_set_1 (.ref l)) (Ao (.ref l) ⟨rfl,rfl⟩) λobj aQ hq=>?_
 obtain⟨rfl,rfl⟩:=hq
 have hS0:=ak s.heap (o:=c0 #[] 0 (.fresh 0 0 (!w.params.followText "set-order"))) rfl
 have up:∀b o,s.heap.get? b=some o->(s.heap.push (c0 #[] 0 (.fresh 0 0 (!w.params.followText "set-order")))).get? b=some o:=λb o e=>ab _ e
 have hl1:=hl.push (c0 #[] 0 (.fresh 0 0 (!w.params.followText "set-order")))
 generalize s.heap.push (c0 #[] 0 (.fresh 0 0 (!w.params.followText "set-order")))=H at hS0 up hl1 ⊢
 have hlS:l<s.heap.objs.size:=ik hl λol hol=>aJ hol.1
 refine⟨a0 _ hS0 rfl,codeAny_call_builtin PySem.F.called_set.init.plain PySem.F.entry_set_init (check_set_init_1 (a0 _ hS0 rfl) ?_)⟩
 refine GO (A:=A.in1) (s:={ s with heap:=H }) (R:=wants (λr b8=>r=.none/\Q (.ref s.heap.objs.size) b8) E) (u:=u) hh hS0 hl1 (bP hlS) (Z (au (show 3<=10 by decide) A.units) hAu) hkeep hstep (λh' k=>h0 h' (k _ _ hS0) λb o e=>k _ _ (up b o e)) λs' hS' hk e1 e2 e3=>?_
 obtain⟨h',g',d',tk',os'⟩:=s'
 simp only at e1 e2 e3
 rw[e1]; rw[e2]; subst e3
 exact⟨rfl,h h' tk' hS' λb o hb e=>hk b o (aB hb) (up b o e)⟩
end
theorem x6{xs:Array Nat}(hr:lv xs){i:Nat}(hi:i<=xs.size):bd xs (if i=0 then 0 else xs.getD (i - 1) 0+1)=i:=by
 refine sE (pw hr (if i=0 then 0 else xs.getD (i - 1) 0+1)) λh1 h2 h3=>?_
 revert h1 h2 h3
 generalize bd xs (if i=0 then 0 else xs.getD (i - 1) 0+1)=b
 intro h1 h2 h3
 by_cases q:i=0
 ·simp only[q,if_true] at h2 h3 ⊢
  by_cases hb:b=0
  ·exact hb
  ·exact absurd (h2 0 (by exact qR ‹_›)) (cF _)
 ·simp only[q,if_false] at h2 h3
  rcases fW b i with x | x | x
  ·have h4:=h3 b (ad _) (by exact af ‹_› ‹_›)
   by_cases hb:b=i - 1
   ·rw[hb] at h4; exact zi ‹_›
   ·exact absurd (hr b (i - 1) (aG (aW x) hb) (af (Ka q) hi)) (BA h4)
  ·exact x
  ·exact absurd (hr (i - 1) i (Ka q) (af x h1)) (me (av (h2 i x)))
namespace G
inductive FW(w:World)(h:Heap)(S I:Addr)(es:Array (Int×Value))(n:Nat)(t:SetTable)(ord:List Value)(i:Nat)(first:Value):Prop
 | text (k:Nat)(e:first=rawInt k)(by_:w.params.followText "set-order"=true)(ho:ord=(pickOrder (w.params.setOrder S n) es).toList.map (·.2))
 | drawn (T:Addr)(ps:List Nat)(e:first=.ref T)(by_:w.params.followText "set-order"=false)(hTI:T≠I)(hT:h.get? T=some (aN (ps.map λp:Nat=>rawInt p)))(hps:∀p∈ps,p<es.size)(ho:∀i:Nat,ord[i]?=(ps[i]?).bind λp:Nat=>(es[p]?).map λe:Int×Value=>e.2)
 | led (k:Nat)(e:first=rawInt k)(by_:w.params.followText "set-order"=false)(hl:t.led=true)(hle:(!t.plain&&decide (es.size>1))=false)(hr:lv t.place)(ho:ord=es.toList.map (·.2))(hk:k=if i=0 then 0 else t.place.getD (i - 1) 0+1)
inductive pB(w:World)(h:Heap)(S I:Addr)(es:Array (Int×Value))(n:Nat)(t:SetTable)(ord:List Value)(i:Nat):Prop
 | mk (first:Value)(hS:h.get? S=some (c0 es n t))(hf:t.fits es.size=true)(hSI:S≠I)(hI:h.get? I=some (li first i S es.size n))(how:FW w h S I es n t ord i first)
section
variable{prog:Program}{w:World}{A:Around}{E:Value->Shared->Prop}{s:Shared}{S I:Addr}{es:Array (Int×Value)}{n:Nat}{t:SetTable}{ord:List Value}
theorem pU{first':Value}{i:Nat}{h h':Heap}(hS:h.get? S=some (c0 es n t))(hf:t.fits es.size=true)(hSI:S≠I)(hg:h'.get? I=some { cls:=.type "set_iterator",data:=.fields #[first',rawInt (i+1:Nat),.ref S,rawInt es.size,rawInt n] })(hs:bC I h h')
  (hc:FW w h S I es n t ord (i+1) first'):pB w h' S I es n t ord (i+1):=by
 refine⟨first',(hs.2 S hSI).trans hS,hf,hSI,hg,?_⟩
 cases hc with
 | text k e b o=>exact .text k e b o
 | drawn T ps e b c d f g=>exact .drawn T ps e b c ((hs.2 T c).trans d) f g
 | led k e b c d f g i=>exact .led k e b c d f g i
theorem qy{k i:Nat}{r:Option (Value×Nat)}{Q:Option (Value×Nat)->Shared->Prop}(hS:s.heap.get? S=some (c0 es n t))(hf:t.fits es.size=true)(hby:w.params.followText "set-order"=false)(hled:t.led=true)(hle:(!t.plain&&decide (es.size>1))=false)
  (hr:(match es[bd t.place k]?,t.place[bd t.place k]? with
   | some (_,x),some j=>some (x,j+1)
   | _,_=>none)=r)(h:Q r s):wpAny (model prog w) A (setNext S k i n) Q E s:=by
 unfold setNext
 refine wpAny_bind (wpAny_setState_of hS rfl hf (bx (λJ=>fQ) ?_))
 rw[hby,if_neg bM]
 show wpAny _ _ (if (!t.plain&&decide (es.size>1))=true then _ else _) _ _ s
 rw[hle,if_neg bM]
 show wpAny _ _ ((if (!t.led&&!es.isEmpty)=true then unsupported "set:maker-not-led" else pure PUnit.unit)>>=λJ=>_) _ _ s
 rw[hled,if_neg (by simp)]
 refine wpAny_bind (wpAny_pure (wpAny_pure ?_))
 show Q (match es[bd t.place k]?,t.place[bd t.place k]? with
   | some (_,x),some j=>some (x,j+1)
   | _,_=>none) s
 rw[hr]; exact h
theorem yY{i:Nat}{v:Value}{Q:Option Value->Shared->Prop}(h:pB w s.heap S I es n t ord i)(hv:ord[i]?=some v)
  (hQ:∀h',pB w h' S I es n t ord (i+1)->bC I s.heap h'->Q (some v) { s with heap:=h' }):wpAny (model prog w) A (pyNext (.ref I)) Q E s:=by
 obtain⟨first,hS,hf,hSI,hI,how⟩:=h
 cases how with
 | text k e hby hord=>
  subst e
  rw[hord,bB,i0] at hv
  obtain⟨e,he,rfl⟩:=aY.mp hv
  exact su (slot:=k) hS hf hI (λJ J q=>oW hS hf hby ((he)▸q)) λh' hg hs=>hQ h' (pU hS hf hSI hg hs (.text k rfl hby hord)) hs
 | drawn T ps e hby hTI hT hps hord=>
  subst e
  have hv':=hv
  rw[hord i] at hv'
  refine aM (Option.bind_eq_some_iff.mp hv') λp hp hv'=>?_
  refine aM (aY.mp hv') λe he e2r=>?_
  subst e2r
  unfold pyNext
  refine wpAny_bind (wpAny_attempt (wpAny_callSpecial?_slot (name:=di "__next__") ⟨_,hI,rfl⟩ bS
   (wpAny_call_entry bS ⟨_,hI,rfl⟩ fe ?_ (fD _))))
  show wpAny _ _ (fieldsOf (.ref I)>>=_) _ _ s
  refine bx (λJ=>wpAny_fieldsOf hI rfl) ?_
  refine wpAny_bind (iM hS hf (lI ?_))
  refine bx (λJ=>wpAny_seqItems hT rfl) ?_
  dsimp only
  rw[(show(ps.map λp:Nat=>rawInt p).toArray[(i:Int).toNat]?=some (rawInt p) from by simp[hp])]
  refine wpAny_bind (bx (λJ=>wpAny_setState_of hS rfl hf) ?_)
  dsimp only
  refine yq (by simp) ?_
  dsimp only[eQ]
  rw[he]
  refine wpAny_pure ?_
  exact wpAny_bind (vz hI λh' hg hs'=>wpAny_pure (a0 _ rfl (wpAny_pure (hQ _ (pU hS hf hSI hg hs' (.drawn T ps rfl hby hTI hT hps hord)) hs'))))
 | led k e hby hled hle hr hord hk=>
  subst e
  rw[hord,bB,i0] at hv
  refine aM (aY.mp hv) λe he e2r=>?_
  subst e2r
  have hps:t.place.size=es.size:=by
   unfold nM at hf
   simp only[aZ,beq_iff_eq] at hf
   exact hf.1
  have hi:=(uT.mp he).1
  have hj:t.place[i]?=some (t.place.getD i 0):=pj.mpr ⟨by exact aL ‹_› (Eq.symm ‹_›),rfl⟩
  exact su (slot:=t.place.getD i 0+1) hS hf hI (λJ J q=>qy hS hf hby hled hle (by rw[(show bd t.place k=i from by rw[hk]; exact x6 hr (by exact lc 1 0 0 0 0 0 hi (am hps.symm) rfl)),he,hj]) q) λh' hg hs=>hQ h' (pU hS hf hSI hg hs (.led (t.place.getD i 0+1) rfl hby hled hle hr hord (by rw[if_neg (IB _),Nat.add_sub_cancel]))) hs
theorem Ca{i:Nat}{Q:Option Value->Shared->Prop}(hh:A.handled=none)(h:pB w s.heap S I es n t ord i)(hv:ord.length<=i)(hi:i<=es.size)(hlen:ord.length=es.size)
  (hQ:∀h',ij I s.heap h'->Q none { s with heap:=h' }):wpAny (model prog w) A (pyNext (.ref I)) Q E s:=by
 have hv':ord[i]?=none:=cQ hv
 obtain⟨first,hS,hf,hSI,hI,how⟩:=h
 cases how with
 | text k e hby hord=>
  subst e
  have hn:(pickOrder (w.params.setOrder S n) es)[i]?=none:=by
   rw[hord,bB,i0] at hv'
   simpa using hv'
  exact sv hh hS hf hI (λJ J q=>oW hS hf hby ((hn)▸q)) hQ
 | drawn T ps e hby hTI hT hps hord=>
  subst e
  have hp:ps[i]?=none:=by
   cases q:ps[i]? with
   | none=>rfl
   | some p=>
    have h2:=hord i
    rw[hv',q] at h2
    have hlt:=hps p (cD q)
    simp only[F5,bR hlt,Option.map_some] at h2
    exact nomatch h2
  have e1:(s.heap.update I (bF (·.setIfInBounds 0 (rawInt 0)))).get? I=some { cls:=.type "set_iterator",data:=.fields #[rawInt 0,rawInt i,.ref S,rawInt es.size,rawInt n] }:=ay _ hI rfl
  refine wpAny_bind (wpAny_attempt (wpAny_callSpecial?_slot (name:=di "__next__") ⟨_,hI,rfl⟩ bS
   (wpAny_call_entry bS ⟨_,hI,rfl⟩ fe ?_ (fD _))))
  show wpAny _ _ (fieldsOf (.ref I)>>=_) _ _ s
  refine bx (λJ=>wpAny_fieldsOf hI rfl) ?_
  refine wpAny_bind (iM hS hf (lI ?_))
  refine bx (λJ=>wpAny_seqItems hT rfl) ?_
  dsimp only
  rw[(show(ps.map λp:Nat=>rawInt p).toArray[(i:Int).toNat]?=none from by simpa using hp)]
  show wpAny _ _ (setField (.ref I) 0 (rawInt 0)>>=λJ=>setField (.ref I) 2 .none>>=λJ=>newExc (.type "StopIteration") []>>=λx=>raiseNew x) _ _ s
  refine wpAny_bind (wpAny_setField hI rfl (by simp) (wpAny_bind (wpAny_setField e1 rfl (by simp) (wpAny_mono (sr (s:=s) (I:=I) (Q':=λJ J=>False) hh rfl rfl rfl rfl ((aD ..).trans (aD ..)).extBut) (λJ J f=>f.elim) ?_))))
  rintro e s'' ⟨a,h',rfl,rfl,ht,hx⟩
  exact wpAny_bind (wpAny_isInstance (T:="StopIteration") (b:=true) ht isSubtype_stop (wpAny_pure (hQ h' hx)))
 | led k e hby hled hle hr hord hk=>
  subst e
  have hps:t.place.size=es.size:=by
   unfold nM at hf
   simp only[aZ,beq_iff_eq] at hf
   exact hf.1
  have hb:es[bd t.place k]?=none:=by
   refine d7 ?_
   have hin:i=es.size:=ck hi (by exact lc 0 0 0 0 0 0 (am hlen.symm) hv rfl)
   have:bd t.place k=i:=by rw[hk]; exact x6 hr (by exact lc 0 0 0 0 0 0 (am hin) (am hps.symm) rfl)
   exact lc 0 0 0 0 0 0 (am hin.symm) (am this.symm) rfl
  exact sv hh hS hf hI (λJ J q=>qy hS hf hby hled hle ((hb)▸rfl) q) hQ
theorem yZ{Q:Value->Shared->Prop}(hS:s.heap.get? S=some (c0 es n t))(hf:t.fits es.size=true)(hpl:t.plain=false∨lv t.place)(hled:t.led=!w.params.followText "set-order")(hz:es.size<=sizeLine)
  (hQ:∀I ord (h':Heap) d,pB w h' S I es n t ord 0->ord.Perm (es.toList.map (·.2))->s.heap.objs.size<=I->(∀b o,s.heap.get? b=some o->h'.get? b=some o)->Q (.ref I) { s with heap:=h',drawn:=d }) :
  wpAny (model prog w) A (pyIter (.ref S)) Q E s:=by
 have hT:s.TypeIs (.ref S) "set":=(a0 _ hS rfl)
 have hlt:S<s.heap.objs.size:=aJ hS
 refine wpAny_pyIter_slot hT PySem.F.slot_set_iter (wpAny_call_entry PySem.F.slot_set_iter hT s5 ?_ (PySem.F.args_set_iter_1 _))
 have step:∀(aQ:Shared),aQ.heap.get? S=some (c0 es n t)->∀(first:Value)(Q':Fin->Shared->Prop)(E':Value->Shared->Prop),
   Q' (.done (.ret (.ref aQ.heap.objs.size))) { aQ with heap:=aQ.heap.push (li first 0 S es.size n) }->
   wpAny (model prog w) A.in1 (do let ep <-setEpoch S; let x <-newFields "set_iterator" [first,rawInt 0,.ref S,rawInt es.size,rawInt ep]; ret x) Q' E' aQ:=by
  intro aQ Km first Q' E' hq
  refine bx (λJ q=>wpAny_bind (wpAny_setState_of Km rfl hf (wpAny_pure q))) ?_
  exact wpAny_bind (wpAny_newObj_type (wpAny_pure hq))
 show wpAny _ _ (IG S>>=_) _ _ s
 refine bx (λJ q=>wpAny_bind (wpAny_bind (wpAny_setState_of hS rfl hf (wpAny_pure (wpAny_pure q))))) ?_
 show wpAny _ _ (setDrawn S>>=_) _ _ s
 refine wpAny_bind (bx (λJ q=>wpAny_setState_of hS rfl hf q) ?_)
 refine wpAny_bind (fQ (wpAny_pure ?_))
 show wpAny _ _ (if (!w.params.followText "set-order"&&(!t.plain&&decide (es.size>1)))=true then(do
   let l <-drawOrder es.size (dh es.size)
   let first <-newTuple (l.map λ(i:Nat)=>rawInt i)
   let ep <-setEpoch S
   let x <-newFields "set_iterator" [first,rawInt 0,.ref S,rawInt es.size,rawInt ep]
   ret x) else(do
   let first <-pure (rawInt 0)
   let ep <-setEpoch S
   let x <-newFields "set_iterator" [first,rawInt 0,.ref S,rawInt es.size,rawInt ep]
   ret x)) _ _ s
 cases hby:w.params.followText "set-order" with
 | true=>
  refine wpAny_bind (wpAny_pure (step s hS _ _ _ ⟨_,rfl,"set_iterator",_,(a0 _ (ak _ rfl) rfl),bS.lookup,?_⟩))
  exact hQ _ _ _ s.drawn ⟨_,ab _ hS,hf,aB hlt,ak _ rfl,.text 0 rfl hby rfl⟩ ((sA _ _).map _) (ad _) λb o e=>ab _ e
 | false=>
  rw[hby] at hled
  have hps0:t.place.size=es.size:=by
   have hf':=hf
   unfold nM at hf'
   simp only[aZ,beq_iff_eq] at hf'
   exact hf'.1
  by_cases hd:(!t.plain&&decide (es.size>1))=false
  ·have hr:lv t.place:=by
    refine dn hpl (λhp=>?_) (λhp=>?_)
    ·rw[hp] at hd
     intro i j h1 h2
     exact absurd (ah (lQ (ah (aH i) h1)) (hps0▸h2)) (of_decide_eq_false hd)
    ·exact hp
   rw[hd,if_neg (by decide)]
   refine wpAny_bind (wpAny_pure (step s hS _ _ _ ⟨_,rfl,"set_iterator",_,(a0 _ (ak _ rfl) rfl),bS.lookup,?_⟩))
   exact hQ _ _ _ s.drawn ⟨_,ab _ hS,hf,aB hlt,ak _ rfl,.led 0 rfl hby hled hd hr rfl (if_pos rfl).symm⟩ (.refl _) (ad _) λb o e=>ab _ e
  ·have hd:(!t.plain&&decide (es.size>1))=true:=by simpa using hd
   rw[hd,if_pos (by rfl)]
   refine wpAny_bind (mU es.size (dh es.size) s _ (by simp) λps d hperm=>?_)
   have hsz:(s.heap.push (aN (ps.map λi:Nat=>rawInt i))).objs.size=s.heap.objs.size+1:=fh ..
   have hps:∀p∈ps,p<es.size:=λp hp=>bz.mp (hperm.mem_iff.mp hp)
   have hlen:ps.length=es.size:=by rw[hperm.length_eq,eO]
   refine wpAny_bind (wpAny_newObj_type ?_ (by show(ps.map λi:Nat=>rawInt i).toArray.size<=sizeLine; rw[ao,ar,hlen]; exact hz))
   refine step { s with drawn:=d,heap:=s.heap.push (aN (ps.map λi:Nat=>rawInt i)) } (ab _ hS) _ _ _ ⟨_,rfl,"set_iterator",_,(a0 _ (ak _ rfl) rfl),bS.lookup,?_⟩
   refine hQ _ (ps.filterMap λp=>(es[p]?).map λe:Int×Value=>e.2) _ d ⟨_,ab _ (ab _ hS),hf,?_,ak _ rfl,.drawn _ ps rfl hby ?_ (ab _ (ak _ rfl)) hps ?_⟩ ?_ ?_ λb o e=>ab _ (ab _ e)
   ·rw[hsz]; exact aB (cx hlt)
   ·rw[hsz]; exact aB (bU _)
   ·exact λi=>filterMap_get hps i
   ·simp only[<-q8 es]
    exact hperm.filterMap _
   ·rw[hsz]; exact cr _
theorem pB.frame{h h':Heap}{D:Addr}{xs:List Value}{c i:Nat}(x:pB w h S I es n t ord i)(hD:h.get? D=some (aR xs c))(k:∀b o,b≠D->h.get? b=some o->h'.get? b=some o):pB w h' S I es n t ord i:=by
 obtain⟨first,a,b,c',d,e⟩:=x
 refine⟨first,k _ _ (λq=>?_) a,b,c',k _ _ (λq=>?_) d,?_⟩
 ·rw[q,hD] at a; simp at a
 ·rw[q,hD] at d; simp at d
 ·cases e with
  | text k e b o=>exact .text k e b o
  | drawn T ps e2 e1 e3 e4 e5 e6=>exact .drawn T ps e2 e1 e3 (k _ _ (λq=>by rw[q,hD] at e4; simp at e4) e4) e5 e6
  | led k e b c d f g i=>exact .led k e b c d f g i
theorem CA{R:Result->Shared->Prop}{D:Addr}{res:Value}(hh:A.handled=none)(hlen:ord.length=es.size)(hz:es.size<=1000) :
  ∀(k i:Nat)(s:Shared)(acc:List Value)(c:Nat),ord.length - i=k->i<=ord.length->pB w s.heap S I es n t ord i->s.heap.get? D=some (aR acc c)->acc.length<=i->
   (∀h' c',h'.get? D=some (aR (acc++ord.drop i) c')->(∀b o,b≠D->b≠I->s.heap.get? b=some o->h'.get? b=some o)->R (.ok (.ret res)) { s with heap:=h' })->
   codeAny (model prog w) A (.builtin "list.extend.loop" ⟨[.ref D,.ref I,res],[]⟩) R s:=by
 intro k
 induction k with
 | zero=>
  intro i s acc c hk hi hst hD hacc hR
  have hDI:D≠I:=λq=>by obtain⟨_,_,_,_,e,_⟩:=hst; rw[<-q,hD] at e; simp at e
  refine codeAny_builtin PySem.F.entry_extend_loop ?_
  show wpAny _ A.in1 (pyNext (.ref I)>>=_) _ _ s
  refine wpAny_bind (Ca (by exact hh) hst (cu hk) (by exact lc 0 0 0 0 0 0 hi (am hlen) rfl) hlen λh' hx=>?_)
  refine wpAny_pure (hR h' c ?_ λb o J hb e=>hx b o hb e)
  rw[iE (cu hk),dq]
  exact hx D _ hDI hD
 | succ k ih=>
  intro i s acc c hk hi hst hD hacc hR
  have hDI:D≠I:=λq=>by obtain⟨_,_,_,_,e,_⟩:=hst; rw[<-q,hD] at e; simp at e
  have hlt:i<ord.length:=by exact je ‹_›
  refine codeAny_builtin PySem.F.entry_extend_loop ?_
  show wpAny _ A.in1 (pyNext (.ref I)>>=_) _ _ s
  have hz1:acc.toArray.size<=sizeLine:=by rw[ao,sizeLine_eq]; exact Z hacc (Z hi (Z (am hlen) (Z hz (N rfl))))
  refine wpAny_bind (yY hst (aI hlt) λh' hst' hs'=>?_)
  have hD':h'.get? D=some (aR acc c):=(hs'.2 D hDI).trans hD
  refine wpAny_bind ?_
  refine wpAny_updateSeq hD' rfl (wpAny_pure ⟨plainId_quiet PySem.F.plain_extend_loop _,ih (i+1) _ (acc++[ord[i]]) (if (acc.toArray.push ord[i]).size==acc.toArray.size then c else c+1) (by(rw[rM,‹_ - _=_›]; rfl)) hlt (hst'.frame hD' λb o hb e=>?_) ?_ ?_ λh'' c'' hD'' hk''=>?_⟩) hz1 (by rw[m6,ao,sizeLine_eq]; exact bJ ‹_›)
  ·exact(ba _ _ (bA hb)).trans e
  ·refine(ay _ hD' rfl).trans ?_
   simp[cO]
  ·rw[fy,BB]; exact bJ ‹_›
  ·refine hR h'' c'' ?_ λb o hb hb' e=>hk'' b o hb hb' ((ba _ _ (bA hb)).trans ((hs'.2 b hb').trans e))
   rw[hD'',iF,gF hlt]; rfl
theorem collectSet{Q:List Value->Shared->Prop}(hh:A.handled=none)(hS:s.heap.get? S=some (c0 es n t))(hf:t.fits es.size=true)(hpl:t.plain=false∨lv t.place)(hled:t.led=!w.params.followText "set-order")(hz:es.size<=1000)
  (hQ:∀ord (h':Heap) d,ord.Perm (es.toList.map (·.2))->s.heap.objs.size<h'.objs.size->(∀b o,s.heap.get? b=some o->h'.get? b=some o)->Q ord { s with heap:=h',drawn:=d }) :
  wpAny (model prog w) A (collect (.ref S)) Q E s:=by
 have hlt:S<s.heap.objs.size:=aJ hS
 unfold collect
 refine wpAny_bind (wpAny_runValue (codeAny_builtin PySem.F.entry_proto_collect ?_))
 refine bx (λJ=>wpAny_newObj_type) ?_
 refine wpAny_pure ⟨plainId_quiet PySem.F.plain_list_iadd _,codeAny_builtin PySem.F.entry_list_iadd ?_⟩
 show wpAny _ A.in1 (pM (.ref s.heap.objs.size) (.ref S) (.ref s.heap.objs.size)) _ _ _
 have h2:(b9 "set"==b9 "list")=false:=by decide
 have hD:(s.heap.push (aR [] 0)).get? s.heap.objs.size=some (aR [] 0):=ak _ rfl
 have hS1:(s.heap.push (aR [] 0)).get? S=some (c0 es n t):=ab _ hS
 have hT1:Shared.TypeIs { s with heap:=s.heap.push (aR [] 0) } (.ref S) "set":=(a0 _ hS1 rfl)
 refine bx (λJ q=>wpAny_typeOf hT1 q) ?_
 have h1:ry (.ref s.heap.objs.size) (.ref S)=false:=by
  show(s.heap.objs.size==S)=false
  exact beq_eq_false_iff_ne.mpr (bP hlt)
 have h3:(b9 "set"==b9 "tuple")=false:=by decide
 simp only[h1,h2,h3,yp,fB,if_false]
 refine wpAny_bind (yZ (s:={ s with heap:=s.heap.push (aR [] 0) }) hS1 hf hpl hled (by rw[sizeLine_eq]; exact l1 0 1000 0 16777216 hz rfl) λI ord h2 d hst hperm hI hk=>?_)
 have hT2:Shared.TypeIs { s with heap:=h2,drawn:=d } (.ref S) "set":=(a0 _ (hk _ _ hS1) rfl)
 refine wpAny_bind (wpAny_holding ?_)
 refine bx (λJ=>wpAny_specialOf hT2 so) ?_
 have hD2:h2.get? s.heap.objs.size=some (aR [] 0):=hk _ _ hD
 wp_delta
 refine bx (λJ=>wpAny_isInstance (T:="set") (b:=true) hT2 (by kernel_rfl)) ?_
 refine bx (λJ=>wpAny_typeOf hT2) ?_
 refine wpAny_pure ?_
 show wpAny _ A.in1 (if (false||true)=true then _ else _) _ _ _
 refine wpAny_bind (wpAny_rule ?_)
 refine wpAny_bind (wpAny_bind (wpAny_updateSeq hD2 rfl ?_ (by decide) (by decide)))
 have hlen:ord.length=es.size:=by rw[hperm.length_eq,ar,aP]
 have hD3:(h2.update s.heap.objs.size (cO (·.push .none))).get? s.heap.objs.size=some (aR [.none] 1):=ay _ hD2 rfl
 refine wpAny_updateSeq hD3 rfl ?_ (by simp[sizeLine_eq]) (by decide)
 have hD4:((h2.update s.heap.objs.size (cO (·.push .none))).update s.heap.objs.size (cO (·.pop))).get? s.heap.objs.size=some (aR [] 2):=ay _ hD3 rfl
 generalize hH4:(h2.update s.heap.objs.size (cO (·.push .none))).update s.heap.objs.size (cO (·.pop))=h4 at hD4 ⊢
 have hk4:∀b o,b≠s.heap.objs.size->h2.get? b=some o->h4.get? b=some o:=λb o hb e=>by
  rw[<-hH4]
  exact(ba _ _ (bA hb)).trans ((ba _ _ (bA hb)).trans e)
 refine wpAny_pure ⟨plainId_quiet PySem.F.plain_extend_loop _,CA (S:=S) (es:=es) (n:=n) (t:=t) (ord:=ord) (by simpa using hh) hlen hz ord.length 0 _ [] 2 (by rfl) (aH _) (hst.frame hD2 hk4) hD4 (ad _) λh5 c5 hD5 hk5=>?_⟩
 refine wpAny_bind (wpAny_load hD5 ?_)
 refine wpAny_pure ?_
 refine hQ _ h5 d ?_ (aJ hD5) λb o e=>?_
 ·exact hperm
 ·have hb:=aJ e
  have h1':I≠b:=λq=>by
   have h2':s.heap.objs.size+1<=I:=by rw[<-fh s.heap (aR [] 0)]; exact hI
   rw[q] at h2'
   exact eU _ (af (cx hb) h2')
  exact hk5 b o (aB hb) (bA h1') (hk4 b o (aB hb) (hk b o (ab _ e)))
end
end G
noncomputable def vZ(x:KD):List KD->List KD
 | []=>[x]
 | y::r=>if jt false x y=some true then x::y::r else y::vZ x r
noncomputable def iU:List KD->List KD
 | []=>[]
 | x::r=>vZ x (iU r)
def Iq(a b:KD):Prop:=jt false b a≠some true
theorem qc(x:KD):∀l,(vZ x l).Perm (x::l)
 | []=>.refl _
 | y::r=>by
  dsimp only[vZ]
  split
  ·exact .refl _
  ·exact((qc x r).cons y).trans (rO _ _ _)
theorem jB:∀l,(iU l).Perm l
 | []=>.refl _
 | x::r=>(qc x _).trans ((jB r).cons x)
theorem Ba(x:KD):∀l,l.Pairwise Iq->(vZ x l).Pairwise Iq
 | [],_=>by delta vZ; simp
 | y::r,h=>by
  have h':=fw.mp h
  dsimp only[vZ]
  split
  ·rename_i q
   refine fw.mpr ⟨λz hz=>?_,h⟩
   rcases aE.mp hz with rfl | hz
   ·exact λe=>sM false _ (nh false _ _ _ q e)
   ·exact λe=>h'.1 z hz (nh false _ _ _ e q)
  ·rename_i q
   refine fw.mpr ⟨λz hz=>?_,Ba x r h'.2⟩
   rcases aE.mp ((qc x r).mem_iff.mp hz) with rfl | hz
   ·exact q
   ·exact h'.1 z hz
theorem sm:∀l,(iU l).Pairwise Iq
 | []=>.nil
 | x::r=>Ba x _ (sm r)
def Cmp(ks:List KD):Prop:=∀x∈ks,∀y∈ks,x≠y->(jt false x y).isSome=true
theorem oV{ls ks:List KD}(c:Cmp ks)(p:ls.Perm ks)(h:ls.Pairwise Iq):ls=iU ks:=
 List.Perm.eq_of_pairwise (le:=Iq) (λa b ha hb h1 h2=>by
  apply Classical.byContradiction
  intro hne
  obtain⟨v,hv⟩:=dG.mp (c a (p.mem_iff.mp ha) b ((jB ks).mem_iff.mp hb) hne)
  cases v with
  | true=>exact h2 hv
  | false=>exact h1 (sN false a b false hne hv)) h (sm ks) (p.trans (jB ks).symm)
def kP(h:Heap):List KD->List Value->Prop
 | [],vs=>vs=[]
 | k::ks,vs=>∃v r,vs=v::r/\dz h k v/\kP h ks r
theorem kP.length{h:Heap}:∀{ks:List KD}{vs:List Value},kP h ks vs->ks.length=vs.length
 | [],vs,e=>by have e:vs=[]:=e; subst e; rfl
 | _::_,_,⟨_,_,e,_,r⟩=>by rw[e]; exact congrArg bf r.length
theorem kP.keeps{h h':Heap}(k:∀a vs,h.get? a=some (aN vs)->h'.get? a=some (aN vs)){ks:List KD}:∀{vs:List Value},kP h ks vs->kP h' ks vs:=by
 induction ks with
 | nil=>exact @λJ e=>e
 | cons _ _ ih=>
  intro _ z1
  refine bD z1 λa r e hk hr=>?_
  exact bX a r e (hk.keeps k) (ih hr)
theorem kP.perm{h:Heap}{ks:List KD}{vs us:List Value}(H:kP h ks vs)(p:us.Perm vs):∃ls,kP h ls us/\ls.Perm ks:=by
 induction p generalizing ks with
 | nil=>exact a0 ks H (.refl _)
 | cons x _ ih=>
  cases ks with
  | nil=>cases H
  | cons k ks=>
   refine bD H λa r e hk hr=>?_
   injection e with e1 e2
   subst e1; subst e2
   refine aM (ih hr) λls h1 h2=>?_
   exact a0 (k::ls) ⟨_,_,rfl,hk,h1⟩ (h2.cons _)
 | swap x y l=>
  cases ks with
  | nil=>cases H
  | cons k ks=>
   refine bD H λa r e hk hr=>?_
   injection e with e1 e2
   subst e1; subst e2
   cases ks with
   | nil=>cases hr
   | cons k' ks=>
    refine bD hr λa' r' e' hk' hr'=>?_
    injection e' with e1 e2
    subst e1; subst e2
    exact a0 (k'::k::ks) ⟨_,_,rfl,hk',_,_,rfl,hk,hr'⟩ (rO _ _ _)
 | trans _ _ ih1 ih2=>
  refine aM (ih2 H) λr h1 h2=>?_
  refine aM (ih1 h1) λr' h3 h4=>?_
  exact a0 r' h3 (h4.trans h2)
theorem kP.ints{h:Heap}{ks:List KD}:∀{vs:List Value},kP h ks vs->(∀k∈ks,∃n,k=.i n)->∃ns,ks=ns.map .i/\IntsAre vs ns:=by
 induction ks with
 | nil=>exact @λJ e J=>by cases e; exact a0 [] rfl .nil
 | cons k ks ih=>
  intro vs z hc
  refine bD z λv r e hk hr=>ik (hc _ (.head _)) λn e'=>?_
  subst e; subst e'
  refine aM (ih hr λk hk=>hc k (.tail _ hk)) λns e hI=>ik hk λt hk=>?_
  subst hk
  exact a0 (n::ns) (congrArg (KD.i n::·) e) (.cons n t hI)
theorem yM{h:Heap}{vs:List Value}{ns:List Int}(hI:IntsAre vs ns):kP h (ns.map .i) vs:=by
 induction hI with
 | nil=>rfl
 | cons n t _ ih=>exact bX _ _ rfl ⟨t,rfl⟩ ih
theorem kP.strs{h:Heap}{ks:List KD}:∀{vs:List Value},kP h ks vs->(∀k∈ks,∃n,k=.s n)->∃ns,ks=ns.map .s/\StrsAre vs ns/\∀x∈ns,cE x=true:=by
 induction ks with
 | nil=>exact @λJ e J=>by cases e; exact lz [] rfl .nil (λJ h=>nomatch h)
 | cons k ks ih=>
  intro vs z hc
  refine bD z λv r e hk hr=>ik (hc _ (.head _)) λn e'=>?_
  subst e; subst e'
  refine lL (ih hr λk hk=>hc k (.tail _ hk)) λns e hI ho=>?_
  refine eV hk λhok hk=>ik hk λt hk=>?_
  subst hk
  exact lz (n::ns) (congrArg (KD.s n::·) e) (.cons n t hI) λx hx=>(aE.mp hx).elim (λe=>e▸hok) (ho x)
theorem yL{h:Heap}{vs:List Value}{ns:List Str}(hI:StrsAre vs ns):(∀x∈ns,cE x=true)->kP h (ns.map .s) vs:=by
 induction hI with
 | nil=>intro _; rfl
 | cons n t _ ih=>intro ho; exact bX _ _ rfl ⟨ho _ (.head _),t,rfl⟩ (ih λx hx=>ho x (.tail _ hx))
theorem kP.tups{h:Heap}{fk:Bool}{ks:List KD}:∀{vs:List Value},kP h ks vs->(∀k∈ks,mR fk k=true)->nA h ks vs:=by
 induction ks with
 | nil=>exact @λJ e J=>e
 | cons k ks ih=>
  intro vs z hc
  refine bD z λv r e hk hr=>?_
  have h0:=hc k (.head _)
  have hr':=ih hr λk hk=>hc k (.tail _ hk)
  cases k with
  | cons p q=>
   refine wo hk λc u t e3r x=>?_
   subst e3r
   exact bX c r e (dz.ref ⟨c,u,t,rfl,x⟩) hr'
  | _=>cases fk<;>cases h0
theorem nA.kvs{h:Heap}:∀{ks:List KD}{vs:List Value},nA h ks vs->kP h ks vs
 | [],_,e=>e
 | _::_,_,⟨a,r,e,hk,hr⟩=>(bX (.ref a) r e (dz.tup hk) hr.kvs)
inductive wt(ks:List KD):Prop
 | nums (h:∀k∈ks,∃n,k=.i n)
 | txts (h:∀k∈ks,∃x,k=.s x)
 | tups (fk:Bool)(h:tt fk ks)
theorem Ew{fk:Bool}{x y:KD}(hx:mR fk x=true)(hy:mR fk y=true):jt true x y=jt false x y:=by
 cases x<;>first | (cases fk<;>cases hx; done) | skip
 cases y<;>first | (cases fk<;>cases hy; done) | rfl
theorem wt.perm{ks ls:List KD}(h:wt ks)(p:ls.Perm ks):wt ls:=by
 cases h with
 | nums h=>exact .nums λk hk=>h k (p.mem_iff.mp hk)
 | txts h=>exact .txts λk hk=>h k (p.mem_iff.mp hk)
 | tups fk h=>exact .tups fk (h.perm p)
theorem wt.cmp{ks:List KD}(h:wt ks):Cmp ks:=λx hx y hy hne=>by
 cases h with
 | nums h=>
  obtain⟨a,rfl⟩:=h x hx
  obtain⟨b,rfl⟩:=h y hy
  rfl
 | txts h=>
  obtain⟨a,rfl⟩:=h x hx
  obtain⟨b,rfl⟩:=h y hy
  rfl
 | tups fk h=>
  have:=h.comp x hx y hy hne
  rwa [Ew (h.fst x hx) (h.fst y hy)] at this
theorem wY{ks ls:List KD}(h:wt ks)(p:ls.Perm ks):iU ls=iU ks:=oV h.cmp ((jB ls).trans p) (sm ls)
theorem GI{ss:List Str}(h:sortedS ss=true):(ss.map KD.s).Pairwise Iq:=
 iC.mpr ((q5 h).imp λ{a b}(hab:I2 a b)=>by
  intro e
  have:=of_decide_eq_true (aw e)
  exact absurd this (List.not_lt.mpr hab))
theorem Hi{ns:List Int}(h:ns.Pairwise (·<=·)):(ns.map KD.i).Pairwise Iq:=
 iC.mpr (h.imp λ{a b} hab=>by
  intro e
  have:=of_decide_eq_true (aw e)
  exact absurd this (ey.mpr hab))
section
variable{prog:Program}{w:World}{A:Around}{E:Value->Shared->Prop}{s:Shared}
theorem Cm{a:Addr}{vs:List Value}{ks:List KD}{n:Nat}{P:PySem.Fin->Shared->Prop}(ho:s.heap.get? a=some (seqObj "list" vs.toArray n))(hk:kP s.heap ks vs)(hc:wt ks)(h64:vs.length<64)(hu:A.units+10<cLine)
  (h:∀out:List Value,kP s.heap (iU ks) out->(∀b,.ref b∈out->.ref b∈vs)->P (.done (.ret .none)) { s with heap:=sortedHeap s.heap a vs out.toArray }) :
  wpAny (model prog w) A (Builtin.«list.sort» ⟨[.ref a],[]⟩) P E s:=by
 have hcmp:=hc.cmp
 cases hc with
 | nums hc=>
  obtain⟨ns,rfl,hI⟩:=hk.ints hc
  refine list_sort_tree ho hI h64 λout ns' h1 h2 h3=>?_
  have e:=oV hcmp (h2.map KD.i) (Hi h3)
  have:=h out.toList ((e).symm▸yM h1) λb hb=>by refine za (h1.all _ hb) λJ J q=>?_; cases q
  rwa [BD] at this
 | txts hc=>
  refine lL (hk.strs hc) λns e1r hI hok=>?_
  subst e1r
  refine list_sort_treeK strKind_oneLt ho hI.keysOf (λv₁ v₂ rest e=>keyKind_strs ((e).symm▸hI)) h64 λst' a1 a2=>?_
  refine lL (sorted_out_str hI a1 a2) λss' b1 b2 b3=>?_
  have e:=oV hcmp (b2.map KD.s) (GI b3)
  have:=h ((arrOf st').map (·.2)).toList (by rw[<-e]; exact yL b1 λx hx=>hok x (b2.mem_iff.mp hx)) λb hb=>by refine za (b1.all _ hb) λJ J q=>?_; cases q
  rwa [BD] at this
 | tups fk hc=>
  refine vT (fk:=fk) ho (hk.tups hc.fst) hc h64 hu λout ls h1 h2 h3 h4=>?_
  have hle:ls.Pairwise Iq:=h4.imp_of_mem λ{x y} hx hy e=>by
   have hx':=hc.fst x (h3.mem_iff.mp hx)
   have hy':=hc.fst y (h3.mem_iff.mp hy)
   rw[Ew hx' hy'] at e
   exact λe2=>sM false _ (nh false _ _ _ e e2)
  exact h out ((oV hcmp h3 hle).symm▸h2.kvs) λb hb=>h1.mem_iff.mp hb
theorem wX{x:Value}{ks:List KD}{Q:Value->Shared->Prop}(Col:List Value->Heap->Prop)(hu:A.units+30<cLine)(hc:wt ks)(h64:ks.length<64)
  (hcol:∀(Q':List Value->Shared->Prop),(∀(ord:List Value)(h':Heap)(d:Drawn)(tk:Nat)(ls:List KD),Col ord h'->kP h' ls ord->ls.Perm ks->(∀b o,s.heap.get? b=some o->h'.get? b=some o)->Q' ord { s with heap:=h',drawn:=d,toks:=tk })->wpAny (model prog w) A.in1 (collect x) Q' E s)
  (h:∀(ord:List Value)(h1:Heap)(d:Drawn)(tk:Nat)(a:Addr)(h':Heap)(out:List Value)(c:Nat),Col ord h1->kP h' (iU ks) out->(∀b,.ref b∈out->.ref b∈ord)->h1.objs.size<=a->h'.get? a=some (aR out c)->(∀b o,s.heap.get? b=some o->h1.get? b=some o)->(∀b o,h1.get? b=some o->h'.get? b=some o)->Q (.ref a) { s with heap:=h',drawn:=d,toks:=tk }) :
  wpAny (model prog w) A (call (.builtin "sorted") [x]) Q E s:=by
 refine Calls.call_function_entry kind_sorted plain_sorted entry_sorted (args_sorted1 _) ?_
 refine wpAny_bind (m:=checkCount "sorted" 1 1 _) (wpAny_pure ?_)
 refine wpAny_bind (hcol _ λord h1 d tk ls hCol hv hp hk=>?_)
 have hl:ord.length<64:=by rw[<-hv.length,hp.length_eq]; exact h64
 refine wpAny_bind (wpAny_newList ?_ (hsz:=by rw[sizeLine_eq]; exact l1 1 64 0 16777216 hl rfl))
 have hoL:(h1.push (seqObj "list" ord.toArray 0)).get? h1.objs.size=some (seqObj "list" ord.toArray 0):=ak _ rfl
 have hv':kP (h1.push (seqObj "list" ord.toArray 0)) ls ord:=hv.keeps λa vs e=>ab _ e
 show wpAny _ _ _ _ _ { s with heap:=h1.push (seqObj "list" ord.toArray 0),drawn:=d,toks:=tk }
 refine wpAny_bind (wpAny_holding (wpAny_call_entry slot_list_sort (a0 _ hoL rfl) entry_list_sort (Cm hoL hv' (hc.perm hp) hl (by simp only[dC]; exact l1 31 0 13 0 hu rfl) λout ho hmem=>(a0 _ rfl ?_)) (args_list_sort _)))
 refine wpAny_pure (a0 _ rfl ?_)
 refine ik (sortedHeap_at (n:=0) (vs:=ord) (out:=out.toArray) hoL) λc hcc=>?_
 have old:∀b o,h1.get? b=some o->(sortedHeap (h1.push (seqObj "list" ord.toArray 0)) h1.objs.size ord out.toArray).get? b=some o:=λb o e=>by
  have hb:b<h1.objs.size:=aJ e
  rw[sortedHeap_old (aB hb) (by rw[size_push']; exact cx hb)]
  exact ab _ e
 refine h ord h1 d tk _ _ out c hCol ?_ hmem (ad _) (hcc) hk old
 rw[wY hc hp] at ho
 refine ho.keeps λb vs e=>?_
 by_cases hb:b<h1.objs.size
 ·rw[sortedHeap_old (aB hb) (by rw[size_push']; exact cx hb)]
  exact e
 ·exfalso
  have hlt:=aJ e
  rw[size_push'] at hlt
  have:b=h1.objs.size:=ck (av hlt) (aF hb)
  rw[this,hoL] at e
  have e:=aw e
  have:=congrArg Obj.cls e
  injection this with this
  exact absurd this (by decide)
end
theorem B6{t:SetTable}(hr:lv t.place){j:Nat}(h:∀i,t.slot j≠.live i):∀i,i<t.place.size->t.place.getD i 0≠j:=λi hi e=>h i (e▸nc hr hi)
theorem y7{t:SetTable}{f:Nat->Int}{h:Int}:∀(fuel:Nat)(p:tE){j:Nat}{dm:Option Nat},(∀d,p.dummy=some d->t.slot d=.dummy)->ee t f h fuel p=some (.empty j dm)->t.slot j=.empty/\∀d,dm=some d->t.slot d=.dummy:=by
 intro fuel
 induction fuel with
 | zero=>
  intro _ _ _ _ e
  exact by cases e
 | succ fuel ih=>
  intro p j dm hp e
  unfold ee at e
  have FR:∀q:tE,(t.advance q).dummy=q.dummy:=λq=>by
   dsimp only[SetTable.advance]
   split<;>rfl
  cases hs:t.slot p.j with
  | empty=>
   rw[hs] at e
   simp only[nO,HH] at e
   obtain⟨rfl,rfl⟩:=e
   exact⟨hs,hp⟩
  | dummy=>
   rw[hs] at e
   refine ih _ (λd hd=>?_) e
   rw[FR] at hd
   cases hd; exact hs
  | live i=>
   rw[hs] at e
   dsimp only at e
   split at e
   ·exact nomatch e
   ·exact ih _ (λd hd=>hp d (by rw[FR] at hd; exact hd)) e
theorem ue{t:SetTable}(hr:lv t.place){h:Int}{j:Nat}{b:Bool}(e:t.freeSlot h=some (j,b)):∀i,i<t.place.size->t.place.getD i 0≠j:=by
 unfold SetTable.freeSlot SetTable.probe at e
 cases hq:ee t (λJ=>h+1) h (10*jV t.mask) (t.probeStart h) with
 | none=>rw[hq] at e; cases e
 | some m=>
  rw[hq] at e
  cases m with
  | candidate _ _ _=>cases e
  | empty i dm=>
   obtain⟨h1,h2⟩:=y7 _ _ (λd hd=>by cases hd) hq
   simp only[nO,Prod.mk.injEq] at e
   obtain⟨rfl,_⟩:=e
   refine B6 hr λk=>?_
   cases dm with
   | none=>rw[show(none:Option Nat).getD i=i from rfl,h1]; exact λq=>by cases q
   | some d=>rw[show(some d:Option Nat).getD i=d from rfl,h2 d rfl]; exact λq=>by cases q
def tv(t:SetTable):Prop:=t.plain=false∨lv t.place
theorem ve{t:SetTable}{n:Nat}(h:tv t):tv (t.orStandIn n):=by
 unfold AE
 split
 ·exact h
 ·exact .inl rfl
set_option tactic.hygienic true in
theorem Co(t:SetTable)(es:Array (Int×Value))(h:Int)(x:Value)(hp:tv t):tv (layNew t es h x).2.1:=by
 unfold layNew
 split
 ·rename_i slot wd hf
  refine ve ?_
  rcases hp with hp | hp
  ·exact .inl hp
  ·exact .inr (hp.put (ue hp hf))
 ·exact .inl rfl
theorem qz(f:Nat->Option Nat):∀(n a:Nat),((C4 a n).filterMap λj=>(f j).map (j,·)).Pairwise (λx y=>x.1<y.1)/\∀x∈(C4 a n).filterMap λj=>(f j).map (j,·),a<=x.1
 | 0,a=>⟨.nil,λJ h=>nomatch h⟩
 | n+1,a=>by
  obtain⟨h1,h2⟩:=qz f n (a+1)
  rw[HL,pI]
  cases f a with
  | none=>exact⟨h1,λx hx=>dj (h2 x hx)⟩
  | some k=>
   refine⟨fw.mpr ⟨λx hx=>by have:=h2 x hx; assumption,h1⟩,λx hx=>?_⟩
   rcases aE.mp hx with rfl | hx
   ·exact ad _
   ·exact dj (h2 x hx)
theorem Cp{mask finger moves:Nat}{led plain:Bool}{hs:Array Int}{t:SetTable}{o:Array Nat}(h:iQ mask finger moves led plain hs=some (t,o)):lv t.place:=by
 unfold iQ at h
 cases q:kH mask hs with
 | none=>rw[q] at h; cases h
 | some owner=>
  rw[q] at h
  have h:some _=some (t,o):=h
  simp only[nO,Prod.mk.injEq] at h
  obtain⟨rfl,_⟩:=h
  have h1:=(qz (λj=>owner.getD j none) (mask+1) 0).1
  rw[<-List.range_eq_range'] at h1
  have h2:=iC.mpr h1
  dsimp only
  intro i j hij hj
  have hj':=hj
  have:=lx.mp h2 i j (cI hij hj') hj' hij
  rw[aX,aX,BC,BC,aI hj',aI (cI hij hj')]
  exact this
set_option tactic.hygienic true in
theorem xa(t:SetTable)(es:Array (Int×Value))(wanted:Nat):tv (relayAll t es wanted).2.1:=by
 unfold relayAll
 split
 ·rename_i t' order e
  dsimp only
  split
  ·exact .inr (Cp e)
  ·exact .inl rfl
 ·exact .inl rfl
section
variable{prog:Program}{w:World}{A:Around}{E:Value->Shared->Prop}{s:Shared}{T:Type} [DecidableEq T]
def l5(K:PySem.KeyKind prog w T):List T->List Value->Prop
 | [],vs=>vs=[]
 | k::ks,vs=>∃v r,vs=v::r/\(K.is k v=true/\v.scannable=true)/\l5 K ks r
theorem l5.length{K:PySem.KeyKind prog w T}:∀{ks:List T}{vs:List Value},l5 K ks vs->ks.length=vs.length
 | [],vs,e=>by have e:vs=[]:=e; subst e; rfl
 | _::_,_,⟨_,_,e,_,r⟩=>by rw[e]; exact congrArg bf r.length
theorem l5.snoc{K:PySem.KeyKind prog w T}{k:T}{v:Value}(hk:K.is k v=true)(hs:v.scannable=true){ks:List T}:∀{vs:List Value},l5 K ks vs->l5 K (ks++[k]) (vs++[v]):=by
 induction ks with
 | nil=>exact @λJ e=>by have e:_=[]:=e; rw[e]; exact bX v [] rfl ⟨hk,hs⟩ rfl
 | cons _ _ ih=>
  intro _ z1
  refine bD z1 λb r e h1 h2=>?_
  exact by rw[e]; exact bX b (r++[v]) rfl h1 (ih h2)
theorem l5.any{K:PySem.KeyKind prog w T}{k:T}{ks:List T}:∀{vs:List Value},l5 K ks vs->vs.any (K.is k)=decide (k∈ks):=by
 induction ks with
 | nil=>exact @λJ e=>by have e:_=[]:=e; rw[e]; rfl
 | cons k' ks ih=>
  intro _ z1
  refine bD z1 λv r e h1 h2=>?_
  simp only[e,List.any_cons,ih h2,PySem.KeyKind.is_eq_decide h1.1 k]
  by_cases q:k=k'
  ·simp[q]
  ·simp[q]
theorem l5.get{K:PySem.KeyKind prog w T}:∀{ks:List T}{vs:List Value}{i:Nat}(h:i<vs.length),l5 K ks vs->∃k,ks[i]?=some k/\K.is k vs[i]=true/\vs[i].scannable=true:=by
 intro ks
 induction ks with
 | nil=>exact @λJ J h e=>by cases e; cases h
 | cons k ks ih=>
  intro vs i h z
  refine bD z λv r e h1 h2=>?_
  subst e
  cases i with
  | zero=>exact a0 k rfl h1
  | succ i=>exact ih (i:=i) (em h) h2
noncomputable def oh(ks:List T)(k:T):List T:=if k∈ks then ks else ks++[k]
theorem FS(ks:List T)(k:T):(oh ks k).length<=ks.length+1:=by
 unfold oh
 split
 ·exact cr _
 ·simp
structure yk(K:PySem.KeyKind prog w T)(h:Heap)(a:Addr)(ks:List T):Prop where
 is:∃es n t vs,h.get? a=some (c0 es n t)/\t.fits es.size=true/\(tv t/\t.led=!w.params.followText "set-order")/\ElemsOf K es.toList/\(es.toList.map (·.2)).Perm vs/\l5 K ks vs
theorem yk.keeps{K:PySem.KeyKind prog w T}{h h':Heap}{a:Addr}{ks:List T}(x:yk K h a ks)(e:∀o,h.get? a=some o->h'.get? a=some o):yk K h' a ks:=
 Jf x.is λes n t vs ho r=>⟨es,n,t,vs,e _ ho,r⟩
set_option maxHeartbeats 1000000 in
theorem GP{K:PySem.KeyKind prog w T}{a:Addr}{ks:List T}{x:T}{v:Value}{Q:Bool->Shared->Prop}(hS:yk K s.heap a ks)(hkey:K.is x v=true)(hsc:v.scannable=true)(hb:ks.length+1<1000)
  (h:∀b h',bC a s.heap h'->yk K h' a (oh ks x)->Q b { s with heap:=h' }) :
  wpAny (model prog w) A (setAddHashed a v (K.hash x)) Q E s:=by
 obtain⟨es,n,t,vs,ho,hf,⟨hpl,hled⟩,hel,hperm,hare⟩:=hS.is
 have hlen:es.size=ks.length:=by rw[hare.length,<-hperm.length_eq,ar,aP]
 have hsb:scanBound=4096:=rfl
 have hb0:es.size<scanBound:=by rw[hlen,hsb]; exact l1 2 1000 1 4096 hb rfl
 have hany:(es.toList.map (·.2)).any (K.is x)=decide (x∈ks):=by
  rw[<-hare.any,II,eu,eu]
  exact⟨λhq=>aM hq λy hy p=>(a0 y (hperm.mem_iff.mp hy) p),λhq=>aM hq λy hy p=>(a0 y (hperm.mem_iff.mpr hy) p)⟩
 refine wpAny_holding (bx (λJ=>wpAny_setState_of ho rfl hf) ?_)
 dsimp only
 rw[byScan_of hsc hb0 hel]
 refine wpAny_bind (wpAny_bind (wpAny_rule (bx (λJ=>wpAny_setScan_of hkey ho rfl hf hel) ?_)))
 cases hr:List.findIdx? (λe=>K.is x e.2) es.toList with
 | some j=>
  refine aM (List.findIdx?_eq_some_iff_getElem.mp hr) λhj hpj J=>?_
  refine wpAny_pure (wpAny_pure ?_)
  have hin:x∈ks:=by
   have:(es.toList.map (·.2)).any (K.is x)=true:=by
    rw[j5,eu]
    exact a0 (es.toList[j]) (gu hj) hpj
   rw[hany] at this
   exact of_decide_eq_true this
  refine h _ s.heap (wx a s.heap) ⟨es,n,t,vs,ho,hf,⟨hpl,hled⟩,hel,hperm,?_⟩
  unfold oh; rw[if_pos hin]; exact hare
 | none=>
  have hno:x∉ks:=by
   have:(es.toList.map (·.2)).any (K.is x)=false:=by
    rw[j5,List.any_eq_false]
    intro e he
    have:=List.findIdx?_eq_none_iff.mp hr e he
    intro q; rw[show K.is x e.2=true from q] at this; cases this
   rw[hany] at this
   exact of_decide_eq_false this
  have hgw:∀(b:Bool){aQ:Shared}{Q':Unit->Shared->Prop},Q' () aQ->wpAny (model prog w) A (match b with | true=>rule "set.scan.the-table-gave-way" | false=>pure ()) Q' E aQ:=
   λb aQ Q' hq=>by cases b<;>first | exact wpAny_pure hq | exact wpAny_rule hq
  have hperm1:=layNew_perm t es (K.hash x) v
  have hfits:=layNew_fits t es (K.hash x) v
  have hplain:=Co t es (K.hash x) v hpl
  have hled1:(layNew t es (K.hash x) v).2.1.led=t.led:=zh t es _ _
  generalize hL:layNew t es (K.hash x) v=Ln at hperm1 hfits hplain hled1 ⊢
  obtain⟨es1,t1,wasDummy,gave⟩:=Ln
  dsimp only at hperm1 hfits hplain hled1 ⊢
  rw[qU] at hperm1
  have hel1:ElemsOf K es1.toList:=(hel.push hkey hsc).perm hperm1
  have hsz1:es1.size=es.size+1:=by rw[<-aP,hperm1.length_eq,fy,aP]; rfl
  have hb1:es1.size<scanBound:=by rw[hsz1,hlen,hsb]; exact af hb (N rfl)
  have hp1:(es1.toList.map (·.2)).Perm (vs++[v]):=by
   refine(hperm1.map _).trans ?_
   rw[dX]
   exact hperm.append_right _
  have hare1:l5 K (oh ks x) (vs++[v]):=by
   unfold oh; rw[if_neg hno]; exact hare.snoc hkey hsc
  refine wpAny_bind (hgw _ ?_)
  have tail:∀t2:SetTable,t2.fits es1.size=true->tv t2->t2.led=t.led->wpAny (model prog w) A (do
    storeSet a es1 t2
    if (!wasDummy&&t2.tooFull)=true then do
      (match (relayAll t2 es1 (cN es1.size)).2.2 with | true=>rule "set.scan.the-table-gave-way" | false=>pure ())
      storeSet a (relayAll t2 es1 (cN es1.size)).1 (relayAll t2 es1 (cN es1.size)).2.1
      pure (some true)
     else pure (some true)) (λr s'=>wpAny (model prog w) A (match r with | some added=>pure added | none=>setAddHashedIn a v (K.hash x) 99999) Q E s') E s:=by
   intro t2 hf2 hpl2 hled2
   refine bx (λJ q=>wpAny_storeSet_of ho rfl q (fits_of_scanBound hb1)) ?_
   have hg1:(s.heap.update a (ig es1 t2)).get? a=some (c0 es1 (n+1) t2):=ay (ig es1 t2) ho rfl
   have hs1:=aD s.heap a (ig es1 t2)
   split
   ·have hp2:=relayAll_perm t2 es1 (cN es1.size)
    have hf3:=relayAll_fits t2 es1 (cN es1.size)
    have hpl3:=xa t2 es1 (cN es1.size)
    have hled3:(relayAll t2 es1 (cN es1.size)).2.1.led=t2.led:=vB t2 es1 _
    generalize hRl:relayAll t2 es1 (cN es1.size)=Rl at hp2 hf3 hpl3 hled3 ⊢
    obtain⟨es2,t3,gave2⟩:=Rl
    have hsz2:es2.size=es1.size:=by rw[<-aP,hp2.length_eq,aP]
    refine wpAny_bind (hgw _ ?_)
    refine wpAny_bind (wpAny_storeSet_of hg1 rfl ?_ (fits_of_scanBound (by rw[hsz2]; exact hb1)))
    have hg2:=ay (ig es2 t3) hg1 rfl
    exact wpAny_pure (wpAny_pure (h _ _ (hs1.trans (aD _ a _)) ⟨es2,_,t3,_,hg2,hf3,⟨hpl3,hled3.trans (hled2.trans hled)⟩,hel1.perm hp2,(hp2.map _).trans hp1,hare1⟩))
   ·exact wpAny_pure (wpAny_pure (h _ _ hs1 ⟨es1,_,t2,_,hg1,hf2,⟨hpl2,hled2.trans hled⟩,hel1,hp1,hare1⟩))
  split
  ·rename_i hpt
   refine wpAny_bind ?_
   simp only[hashByValue_scannable 8 hsc]
   refine wpAny_pure ?_
   split
   ·exact tail t1 hfits hplain hled1
   ·exact tail _ (SetTable.fits_plain_off hfits) (.inl rfl) hled1
  ·rename_i hpt
   refine wpAny_bind (wpAny_pure ?_)
   exact tail t1 hfits hplain hled1
theorem xV{K:PySem.KeyKind prog w T}{l:Addr}{vs:List Value}{ks:List T}{Q:Value->Shared->Prop}(hh:A.handled=none)(hl:s.heap.IsList l vs.toArray)(hare:l5 K ks vs)(hlen:ks.length<900)
  (h:∀(h':Heap)(tk:Nat),yk K h' s.heap.objs.size (ks.foldl oh [])->(∀b o,b<s.heap.objs.size->s.heap.get? b=some o->h'.get? b=some o)->Q (.ref s.heap.objs.size) { s with heap:=h',toks:=tk }) :
  wpAny (model prog w) A (call (.type "set") [.ref l]) Q E s:=by
 have hfold:∀i,((ks.take i).foldl oh []).length<=i:=λi=>by
  have:∀(l:List T)(acc:List T),(l.foldl oh acc).length<=acc.length+l.length:=by
   intro l
   induction l with
   | nil=>intro acc; exact ad _
   | cons k r ih=>intro acc; exact Z (ih (oh acc k)) (Z (eP (FS acc k) _) (am (aV _ _)))
  have:=this (ks.take i) []
  rw[gq] at this
  simp only[um] at this
  exact Z this (Z (am (el _)) (hZ _ _))
 refine xW (I:=λi h=>yk K h s.heap.objs.size ((ks.take i).foldl oh [])) (u:=A.units+10) hh hl (ad _) (λi h h' x k=>?_) (λi hi A' s' Q' E' hu hI hQ=>?_) (λh' h0 J=>?_) (λh' tk hI hk=>?_)
 ·exact x.keeps λo e=>by
   refine Jf x.is λes n t vs ho J=>?_
   rw[ho] at e
   cases e
   exact k _ _ ho (by show b9 "set"≠_; decide)
 ·have hi':i<vs.length:=by exact hi
  refine lL (hare.get hi') λk e1 e2 e3=>?_
  have e2':K.is k vs.toArray[i]=true:=by simpa using e2
  have e3':vs.toArray[i].scannable=true:=by simpa using e3
  refine wpAny_holding (bx (λJ=>K.pyHash e2') ?_)
  refine GP (s:={ s' with toks:=s'.toks+1 }) hI e2' e3' (ah (ah (hfold i) (aL hi' hare.length.symm)) (af hlen (N rfl))) λb h' hs hS=>?_
  refine hQ b h' _ hs ?_
  have:ks.take (i+1)=ks.take i++[k]:=by
   rw[rs,e1]; rfl
  show yk K h' s.heap.objs.size ((ks.take (i+1)).foldl oh [])
  simp only[this,Gc]
  exact hS
 ·exact⟨#[],0,_,[],h0,rfl,⟨.inr λi j J hj=>absurd hj (cF _),rfl⟩,λe he=>by simp at he,.refl _,rfl⟩
 ·refine h h' tk ?_ hk
  have:ks.take vs.toArray.size=ks:=by rw[ao,<-hare.length,l6]
  rwa [this] at hI
end
noncomputable def q9:Bool->KD->Bool
 | false,.i _=>true
 | false,.s x=>cE x
 | _,.nil=>true
 | _,.cons a b=>q9 false a&&q9 true b
 | true,_=>false
theorem dz.ofVR{g:ac}{h:Heap}(fz:∀a o,g a=.froz o->h.get? a=some o)(k:KD):(∀v,q9 false k=true->VR g (kv k) v->dz h k v)/\(∀vs,q9 true k=true->d0 g (kvs k) vs->jc h k vs):=by
 induction k with
 | i n=>exact⟨λv J hv=>hv,λJ h J=>nt h⟩
 | s x=>exact⟨λv ho hv=>⟨ho,hv⟩,λJ h J=>nt h⟩
 | nil=>exact⟨λv J hq=>bD hq λa vs e t r=>by subst r; exact a0 a e (fz _ _ t),λvs J hv=>hv⟩
 | cons p q ihp ihq=>
  exact⟨λv ho hv=>bD hv λa vs e t z=>bD z λu r e2 h1 h2=>by subst e2; exact ub a u r e (fz _ _ t) (ihp.1 u (dZ ho).1 h1) (ihq.2 r (dZ ho).2 h2),
   λvs ho hv=>bD hv λu r e h1 h2=>bX u r e (ihp.1 u (dZ ho).1 h1) (ihq.2 r (dZ ho).2 h2)⟩
def yj(ks:List KD):Prop:=∀k∈ks,q9 false k=true
theorem kP.ofVR{g:ac}{h:Heap}(fz:∀a o,g a=.froz o->h.get? a=some o){ks:List KD}:∀{vs:List Value},yj ks->d0 g (ks.map kv) vs->kP h ks vs:=by
 induction ks with
 | nil=>exact @λJ J e=>e
 | cons k ks ih=>
  intro _ ho z2
  refine bD z2 λv r e h1 h2=>?_
  exact bX v r e ((dz.ofVR fz k).1 v (ho k (.head _)) h1) (ih (λk hk=>ho k (.tail _ hk)) h2)
def yg(g:ac)(h:Heap)(vs:List Value):Prop:=∀b,.ref b∈vs->∃k,VR g (kv k) (.ref b)/\dz h k (.ref b)
theorem yg.ofVR{g:ac}{h:Heap}(fz:∀a o,g a=.froz o->h.get? a=some o){ks:List KD}:∀{vs:List Value},yj ks->d0 g (ks.map kv) vs->yg g h vs:=by
 induction ks with
 | nil=>exact @λJ J e=>by have e:_=[]:=e; subst e; intro b hb; cases hb
 | cons k ks ih=>
  intro _ ho z2
  refine bD z2 λv r e h1 h2=>?_
  rw[e]
  intro b hb
  rcases aE.mp hb with e | hb
  ·rw[e]; exact a0 k h1 ((dz.ofVR fz k).1 _ (ho k (.head _)) h1)
  ·exact ih (λk hk=>ho k (.tail _ hk)) h2 b hb
theorem kP.vr{g:ac}{h:Heap}{ks:List KD}:∀{vs:List Value},kP h ks vs->yg g h vs->d0 g (ks.map kv) vs:=by
 induction ks with
 | nil=>exact @λJ e J=>e
 | cons k ks ih=>
  intro vs z hr
  refine bD z λv r e h1 h2=>?_
  subst e
  refine bX v r rfl ?_ (ih h2 λb hb=>hr b (.tail _ hb))
  cases k with
  | i n=>exact h1
  | s x=>exact h1.2
  | nil=>
   refine aM h1 λa e x=>?_
   subst e
   exact aM (hr a (.head _)) λk h3 h4=>by rw[dz.inj (x:=.nil) (a0 a rfl x) h4]; exact h3
  | cons p q=>
   refine wo h1 λa u t e x=>?_
   subst e
   exact aM (hr a (.head _)) λk h3 h4=>by rw[dz.inj (x:=.cons p q) (J5 a u t rfl x) h4]; exact h3
noncomputable def GL(P:Params)(ks:List V):V:=.pk (λJ vs o=>∃es n t,o=c0 es n t/\t.fits es.size=true/\tv t/\t.led=(!P.followText "set-order")/\(es.toList.map (·.2)).Perm vs) ks
noncomputable def mV(ks:List KD):List KD:=ks.foldl fE []
theorem xQ{T:Type} [DecidableEq T]{f:T->KD}(hf:∀a b,f a=f b->a=b)(ks:List T):(ks.foldl oh []).map f=mV (ks.map f):=by
 have:∀(ks acc:List T),(ks.foldl oh acc).map f=(ks.map f).foldl fE (acc.map f):=by
  intro ks
  induction ks with
  | nil=>intro acc; rfl
  | cons k r ih=>
   intro acc
   simp only[nr,ih,bQ,nr]
   congr 1
   delta oh fE
   by_cases q:k∈acc
   ·rw[if_pos q,if_pos (a8.mpr (a0 k q rfl))]
   ·rw[if_neg q,if_neg (λhm=>q (by obtain⟨y,hy,e⟩:=a8.mp hm; exact hf _ _ e▸hy)),dX]
    rfl
 exact this ks []
theorem yc{ks:List KD}{k:KD}(h:ks.Nodup):(fE ks k).Nodup:=by
 unfold fE
 split
 ·exact h
 ·rename_i q
  rw[lA]
  exact⟨h,by simp,λx hx y hy e=>q (by rw[dH] at hy; rw[<-hy,<-e]; exact hx)⟩
theorem xR(ks:List KD):(mV ks).Nodup:=by
 have:∀(ks acc:List KD),acc.Nodup->(ks.foldl fE acc).Nodup:=by
  intro ks
  induction ks with
  | nil=>intro acc h; exact h
  | cons k r ih=>intro acc h; exact ih _ (yc h)
 exact this ks [] .nil
theorem uM{ks:List KD}{x:KD}(h:x∈mV ks):x∈ks:=by
 have:∀(ks acc:List KD),x∈ks.foldl fE acc->x∈acc∨x∈ks:=by
  intro ks
  induction ks with
  | nil=>intro acc h; exact .inl h
  | cons k r ih=>
   intro acc h
   rcases ih _ h with h | h
   ·unfold fE at h
    split at h
    ·exact .inl h
    ·refine dn (jW.mp h) (λh=>?_) (λh=>?_)
     ·exact .inl h
     ·rw[dH] at h; exact .inr (h▸.head _)
   ·exact .inr (.tail _ h)
 refine dn (this ks [] h) (λh=>?_) (λh=>?_)
 ·cases h
 ·exact h
inductive ECl(ks:List KD):Prop
 | nums (h:∀k∈ks,∃n,k=.i n)
 | txts (h:∀k∈ks,∃x,k=.s x)
 | tups (h:∀k∈ks,mR true k=true/\gS false k<=7)
theorem HA{prog:Program}{w:World}{vs:List Value}{ns:List Int}(h:IntsAre vs ns):l5 (PySem.intKind prog w) ns vs:=by
 induction h with
 | nil=>rfl
 | cons n t _ ih=>exact bX _ _ rfl ⟨intKind_is _ _ _ t,rfl⟩ ih
theorem Hz{prog:Program}{w:World}{vs:List Value}{ns:List Str}(h:StrsAre vs ns):l5 (PySem.strKind prog w) ns vs:=by
 induction h with
 | nil=>rfl
 | cons n t _ ih=>exact bX _ _ rfl ⟨iz _ t,rfl⟩ ih
theorem l5.vr{prog:Program}{w:World}{T:Type} [DecidableEq T]{K:PySem.KeyKind prog w T}{f:T->KD}{g:ac}(hf:∀k v,K.is k v=true->VR g (kv (f k)) v):∀{ks:List T}{vs:List Value},l5 K ks vs->d0 g ((ks.map f).map kv) vs
 | [],_,e=>e
 | k::ks,_,⟨v,r,e,h1,h2⟩=>(bX v r e (hf k v h1.1) (l5.vr hf h2))
section
variable{prog:Program}{w:World}{A:Around}{E:Value->Shared->Prop}{s:Shared}
theorem FK{l:Addr}{vs:List Value}{ks:List KD}{Q:Value->Shared->Prop}(hh:A.handled=none)(hu:A.units+40<cLine)(hl:s.heap.IsList l vs.toArray)(hk:kP s.heap ks vs)(hc:∀k∈ks,mR true k=true/\gS false k<=7)(hlen:ks.length<60)
  (h:∀(h':Heap)(tk:Nat)(us:List Value),kO w h' s.heap.objs.size (mV ks) us->(∀v∈us,v∈vs)->(∀b o,b<s.heap.objs.size->s.heap.get? b=some o->h'.get? b=some o)->Q (.ref s.heap.objs.size) { s with heap:=h',toks:=tk }) :
  wpAny (model prog w) A (call (.type "set") [.ref l]) Q E s:=by
 have hfold:∀i,((ks.take i).foldl fE []).length<=i:=λi=>by
  have:∀(l acc:List KD),(l.foldl fE acc).length<=acc.length+l.length:=by
   intro l
   induction l with
   | nil=>intro acc; exact ad _
   | cons k r ih=>
    intro acc
    have h1:=ih (fE acc k)
    have h2:(fE acc k).length<=acc.length+1:=by
     unfold fE
     split
     ·exact cr _
     ·simp
    exact Z h1 (Z (eP h2 _) (am (aV _ _)))
  have:=this (ks.take i) []
  rw[gq] at this
  simp only[um] at this
  exact Z this (Z (am (el _)) (hZ _ _))
 have hT:=hk.tups (fk:=true) λk hk=>(hc k hk).1
 refine xW (I:=λi h=>nA h ks vs/\∃us,kO w h s.heap.objs.size ((ks.take i).foldl fE []) us/\∀v∈us,v∈vs) (u:=A.units+10) hh hl (ad _) (λi h h' x k=>?_) (λi hi A' s' Q' E' hu' hI hQ=>?_) (λh' h0 hold=>?_) (λh' tk hI hk=>?_)
 ·obtain⟨x0,us,x1,x2⟩:=x
  have kt:∀a vs,h.get? a=some (aN vs)->h'.get? a=some (aN vs):=λa vs e=>k _ _ e (by show b9 "tuple"≠_; decide)
  refine wo x1.is λes n t T r=>?_
  exact⟨x0.keeps kt,us,⟨x1.kts.keeps kt,x1.nodup,x1.dep,es,n,t,⟨k _ _ T.obj (by show b9 "set"≠_; decide),T.led,T.pl,T.tab,T.full,T.mask⟩,r⟩,x2⟩
 ·obtain⟨hT',us,hS,hm⟩:=hI
  have hi':i<vs.length:=by exact hi
  refine bD (hT'.get hi') λa k e1 e2 e3=>?_
  have ev:vs.toArray[i]=.ref a:=by
   have:vs.getD i .none=vs[i]:=by simp[List.getD,hi']
   rw[this] at e1
   exact e1
  have hkm:k∈ks:=cD e2
  rw[ev]
  unfold setAdd
  refine wpAny_holding (wpAny_bind (dz.hash k _ _ _ _ (dz.tup e3) (ah (Z (kY hu' (hc k hkm).2) (au (N rfl:17<=40) A.units)) hu) ?_))
  refine JT (s:={ s' with toks:=s'.toks+Cr false k }) hS e3 (hc k hkm).2 (hc k hkm).1 (cI (ah (hfold i) (aL hi' hT.length.symm)) hlen) (by exact lc 0 10 41 0 21 0 hu' hu rfl) λb h' hs hS'=>?_
  refine wo hS.is λes n t T J=>?_
  refine hQ b h' _ hs ⟨hT'.keeps (uw T.obj (by show b9 "set"≠_; decide) hs),yb ((ks.take i).foldl fE []) us k (.ref a),?_,λv hv=>?_⟩
  ·have:ks.take (i+1)=ks.take i++[k]:=by
    rw[rs,e2]; rfl
   simp only[this,Gc]
   exact hS'
  ·unfold yb at hv
   split at hv
   ·exact hm v hv
   ·rcases jW.mp hv with hv | hv
    ·exact hm v hv
    ·rw[dH] at hv
     simp only[hv,<-ev]
     simp
 ·refine⟨hT.keeps λa vs e=>hold _ _ e,[],⟨rfl,.nil,(λJ h=>nomatch h),#[],0,_,⟨h0,rfl,.inr rfl,?_,(show 0*5<7*3 by decide),.inl rfl⟩,.refl _⟩,λJ h=>nomatch h⟩
  exact⟨rfl,(show #[].size=_ by simp),λi j J hj=>absurd hj (cF _),λi hi=>absurd hi (cF _),aH _,KH,λi hi=>absurd hi (cF _)⟩
 ·obtain⟨_,us,hS,hm⟩:=hI
  refine h h' tk us ?_ hm hk
  have:ks.take vs.toArray.size=ks:=by rw[ao,<-hT.length,l6]
  rw[this] at hS
  exact hS
end
section
variable{C:Cx}{X:bc}{W:En}{l:Loc}{σ:aK}{Q:V->aK->Prop}
theorem AP{d:V}{ks:List KD}(hc:W.calm=true)(hl:IsL σ d (ks.map kv))(ho:yj ks)(hcl:ECl ks)(hz:ks.length<60)(h:Q (GL C.w.params ((mV ks).map kv)) σ):SC C X W σ (.val (.type "set")) [d] Q:=by
 intro g A L s _ _ R hA rfl hq
 refine bD hq λv J e2r hv e4r=>?_
 subst e2r
 subst e4r
 refine lW (hl.at R hv) λa vs n e3r hol hvs=>?_
 subst e3r
 have hk:=kP.ofVR R.froz ho hvs
 have hh:=hA.calm hc
 have hu:=hA.units
 have fin:∀(h':Heap)(tk:Nat)(es:Array (Int×Value))(n:Nat)(t:SetTable)(us:List Value),(∀b o,b<s.heap.objs.size->s.heap.get? b=some o->h'.get? b=some o)->h'.get? s.heap.objs.size=some (c0 es n t)->t.fits es.size=true->tv t->t.led=(!C.w.params.followText "set-order")->(es.toList.map (·.2)).Perm us->d0 g ((mV ks).map kv) us->Up C g Q (.ref s.heap.objs.size) { s with heap:=h',toks:=tk }:=by
  intro h' tk es n t us hk hg hf hp hled hperm hvr
  have hfree:=R.free_size (ad s.heap.objs.size)
  have R1:bV C g σ { s with heap:=h',toks:=tk }:=R.keeps λb o e=>hk b o (aJ e) e
  have R2:=R1.retag (a:=s.heap.objs.size) (t:=.froz (c0 es n t)) ((hfree)▸λh=>h) hg
  have x:dA g (g.put s.heap.objs.size (.froz (c0 es n t))):=dA.put hfree _
  exact⟨GL C.w.params ((mV ks).map kv),_,σ,x,R2,(ub _ us _ rfl (aC ..) ⟨es,n,t,rfl,hf,hp,hled,hperm⟩ (hvr.ext x.v)),h⟩
 cases hcl with
 | nums hcl=>
  obtain⟨ns,rfl,hI⟩:=hk.ints hcl
  refine xV (K:=PySem.intKind C.prog C.w) hh (du hol) (HA hI) (by rw[ar] at hz; exact l1 1 60 1 900 hz rfl) λh' tk hS hk'=>?_
  obtain⟨es,n2,t,us,hg,hf,⟨hpl,hled⟩,_,hperm,hare⟩:=hS.is
  refine fin h' tk es n2 t us hk' hg hf hpl hled hperm ?_
  rw[<-xQ (f:=KD.i) (λa b e=>by cases e; rfl)]
  exact hare.vr (f:=KD.i) λk v h=>F4 h
 | txts hcl=>
  refine lL (hk.strs hcl) λns e1r hI hok=>?_
  subst e1r
  refine xV (K:=PySem.strKind C.prog C.w) hh (du hol) (Hz hI) (by rw[ar] at hz; exact l1 1 60 1 900 hz rfl) λh' tk hS hk'=>?_
  obtain⟨es,n2,t,us,hg,hf,⟨hpl,hled⟩,_,hperm,hare⟩:=hS.is
  refine fin h' tk es n2 t us hk' hg hf hpl hled hperm ?_
  rw[<-xQ (f:=KD.s) (λa b e=>by cases e; rfl)]
  exact hare.vr (f:=KD.s) λk v h=>by
   obtain⟨tk,e⟩:=ot h
   exact⟨tk,e⟩
 | tups hcl=>
  refine FK hh (fL hu rfl) (du hol) hk hcl hz λh' tk us hS hm hk'=>?_
  obtain⟨es,n2,t,T,hperm⟩:=hS.is
  refine fin h' tk es n2 t us hk' T.obj T.fits (.inr T.tab.rise) T.led ?_ ?_
  ·refine(hperm.map _).trans ?_
   rw[ef]
   have:((mV ks).zip us).map ((λx=>x.2) ∘ λp=>(hashW C.w.params (md p.1),p.2))=us:=by
    have e:((λx:Int×Value=>x.2) ∘ λp:KD×Value=>(hashW C.w.params (md p.1),p.2))=Prod.snd:=rfl
    rw[e,HO ((hS.kts.length)▸ad _)]
   rw[this]
  ·have kt:=hS.kts.kvs
   refine kt.vr λb hb=>?_
   refine aM (yg.ofVR R.froz ho hvs b (hm _ hb)) λk h1 h2=>?_
   exact a0 k h1 (h2.keeps λa vs e=>hk' _ _ (aJ e) e)
theorem yI{P:Params}{ds:List V}(hz:ds.length<=1000000)(h:Q (.int ds.length) σ):SC C X W σ (.val (.builtin "len")) [GL P ds] Q:=by
 intro g A L s _ _ R hA rfl hq
 refine bD hq λv J e2r hv e4r=>?_
 subst e2r
 subst e4r
 obtain⟨a,vs,_,rfl,ht,⟨es,n,t,rfl,hf,hpl,hled,hp⟩,hvs⟩:=hv
 have hn:es.size=ds.length:=by rw[hvs.length,<-hp.length_eq,ar,aP]
 refine call_len_set (R.froz _ _ ht) ⟨rfl,rfl,rfl⟩ rfl hf (by rw[hn]; exact zb hz rfl) (Up.here (d:=.int _) (R.toks _) ⟨_,rfl⟩ ?_)
 rw[hn]; exact h
theorem bV.free_none{g:ac}{s:Shared}{a:Addr}(R:bV C g σ s)(h:s.heap.get? a=none):g a=.free:=by
 apply Classical.byContradiction
 intro hne
 refine ik (R.has a hne) λo e=>?_
 rw[h] at e; cases e
theorem bV.h0_none'{g:ac}{s:Shared}{a:Addr}(R:bV C g σ s)(h:s.heap.get? a=none):C.H0.get? a=none:=by
 cases q:C.H0.get? a with
 | none=>rfl
 | some o=>have:=R.base a o q; rw[h] at this; cases this
theorem si{g:ac}{s:Shared}{A:Around}{E:Value->Shared->Prop}{x:Value}{ks:List KD}(Col:List Value->Heap->Prop)(R:bV C g σ s)(hu:A.units+30<cLine)(hc:wt ks)(h64:ks.length<64)
  (hcol:∀(Q':List Value->Shared->Prop),(∀(ord:List Value)(h':Heap)(d:Drawn)(tk:Nat)(ls:List KD),Col ord h'->kP h' ls ord->ls.Perm ks->(∀b o,s.heap.get? b=some o->h'.get? b=some o)->Q' ord { s with heap:=h',drawn:=d,toks:=tk })->wpAny C.M A.in1 (collect x) Q' E s)
  (hr:∀ord h',Col ord h'->(∀b o,s.heap.get? b=some o->h'.get? b=some o)->yg g h' ord)
  (h:Q (.ref σ.nx) (σ.push (.list ((iU ks).map kv)))):wpAny C.M A (call (.builtin "sorted") [x]) (Up C g Q) E s:=by
 refine wX Col hu hc h64 hcol λord h1 d tk a h' out c hC hk hm hs2 ho k1 k2=>?_
 have hrk:=hr ord h1 hC k1
 have hvr:d0 g ((iU ks).map kv) out:=hk.vr λb hb=>by
  refine aM (hrk b (hm b hb)) λk e1 e2=>?_
  exact a0 k e1 (e2.keeps λa vs e=>k2 _ _ e)
 have none_:s.heap.get? a=none:=by
  cases q:s.heap.get? a with
  | none=>rfl
  | some o=>exact absurd (aJ (k1 _ _ q)) (kX.mpr hs2)
 have hfree:=R.free_none none_
 have x:dA g (g.put a (.main σ.nx)):=dA.put hfree _
 exact⟨.ref σ.nx,_,_,x,(R.keeps (s':={ s with heap:=h',drawn:=d,toks:=tk }) (λb o e=>k2 b o (k1 b o e)) rfl rfl).newMain (o:=.list ((iU ks).map kv)) hfree (R.h0_none' none_) (rn out c ho (hvr.ext x.v)) ⟨_,ho⟩,(a0 _ rfl (aC ..)),h⟩
theorem yE{d:V}{ks:List KD}(hl:IsL σ d (ks.map kv))(ho:yj ks)(hc:wt ks)(hz:ks.length<64)(h:Q (.ref σ.nx) (σ.push (.list ((iU ks).map kv)))):SC C X W σ (.val (.builtin "sorted")) [d] Q:=by
 intro g A L s _ _ R hA rfl hq
 refine bD hq λv J e2r hv e4r=>?_
 subst e2r
 subst e4r
 refine lW (hl.at R hv) λa vs n e3r hol hvs=>?_
 subst e3r
 have hk:=kP.ofVR R.froz ho hvs
 have hlen:vs.length<64:=by rw[<-hk.length]; exact hz
 refine si (λord h'=>ord=vs/\∀b o,s.heap.get? b=some o->h'.get? b=some o) R (fL hA.units rfl) hc hz (λQ' q=>?_) (λord h' hC k=>?_) h
 ·refine collect_list (du hol) ?_ (by rw[sizeLine_eq]; exact l1 1 64 0 16777216 hlen rfl)
  have k:∀b o,s.heap.get? b=some o->((s.heap.push (seqObj "list" #[] 0)).update s.heap.objs.size (cO (·++vs.toArray))).get? b=some o:=λb o e=>
   (ba _ _ (bP (aJ e))).trans (ab _ e)
  exact q vs _ s.drawn s.toks ks ⟨rfl,k⟩ (hk.keeps λa vs e=>k _ _ e) (.refl _) k
 ·obtain⟨rfl,_⟩:=hC
  intro b hb
  refine aM (yg.ofVR R.froz ho hvs b hb) λk' e1 e2=>?_
  exact a0 k' e1 (e2.keeps λa vs e=>k _ _ e)
theorem tR{ks:List KD}(hcalm:W.calm=true)(ho:yj ks)(hc:wt ks)(hz:ks.length<64)(h:Q (.ref σ.nx) (σ.push (.list ((iU ks).map kv)))):SC C X W σ (.val (.builtin "sorted")) [GL C.w.params (ks.map kv)] Q:=by
 intro g A L s _ _ R hA rfl hq
 refine bD hq λv J e2r hv e4r=>?_
 rw[e2r]
 rw[e4r]
 obtain⟨a,vs,_,rfl,ht,⟨es,n,t,rfl,hf,hpl,hled,hp⟩,hvs⟩:=hv
 have hk:=kP.ofVR R.froz ho hvs
 have hn:es.size=ks.length:=by rw[hk.length,<-hp.length_eq,ar,aP]
 refine si (λord J=>ord.Perm vs) R (fL hA.units rfl) hc hz (λQ' q=>?_) (λord h' hC k=>?_) h
 ·refine G.collectSet (by simpa using hA.calm hcalm) (R.froz _ _ ht) hf hpl hled (by exact lc 0 0 0 63 0 1000 (am hn) (l1 1 64 0 63 hz rfl) rfl) λord h' d hperm hs k=>?_
  have hperm':=hperm.trans hp
  refine aM (hk.perm hperm') λls h1 h2=>?_
  exact q ord h' d s.toks ls hperm' (h1.keeps λa vs e=>k _ _ e) h2 k
 ·intro b hb
  refine aM (yg.ofVR R.froz ho hvs b (hC.mem_iff.mp hb)) λk' e1 e2=>?_
  exact a0 k' e1 (e2.keeps λa vs e=>k _ _ e)
end
theorem DQ:∀k:KD,wd (kv k)=md k/\wd.wds (kvs k)=xt k
 | .i _=>⟨rfl,rfl⟩
 | .s _=>⟨rfl,rfl⟩
 | .nil=>⟨rfl,rfl⟩
 | .cons a b=>by
  have h1:=(DQ a).1
  have h2:=(DQ b).2
  refine⟨?_,?_⟩
  ·show WData.tuple (wd.wds (kv a::kvs b))=.tuple (md a::xt b)
   show WData.tuple (wd (kv a)::wd.wds (kvs b))=_
   rw[h1,h2]
  ·show wd (kv a)::wd.wds (kvs b)=md a::xt b
   rw[h1,h2]
theorem xC(P:Params)(k:KD):lm P (kv k)=hashW P (md k):=by unfold lm; rw[(DQ k).1]
noncomputable def tupK(k:KD):Bool:=q9 true k&&bm (gS false k) 6
theorem tupK.ok{k:KD}(h:tupK k=true):q9 false k=true/\gS false k<=6/\(k=.nil∨∃a b,k=.cons a b):=by
 unfold tupK at h
 rw[aZ] at h
 have h2:=N h.2
 cases k with
 | i _=>cases h.1
 | s _=>cases h.1
 | nil=>exact⟨rfl,h2,.inl rfl⟩
 | cons a b=>exact⟨h.1,h2,.inr (K9 _ _ rfl)⟩
theorem tupK.ref{k:KD}(h:tupK k=true){hp:Heap}{v:Value}(x:dz hp k v):∃a,v=.ref a/\jq hp k a:=by
 rcases tupK.ok h with ⟨_,_,rfl | ⟨a,b,rfl⟩⟩
 ·refine aM x λa e1r g=>?_; subst e1r; exact a0 a rfl (dz.ref (k:=.nil) (a0 a rfl g))
 ·refine wo x λc u r e3r g=>?_; subst e3r; exact a0 c rfl (dz.ref (k:=.cons a b) (J5 c u r rfl g))
theorem EE:∀k k':KD,(q9 false k=true->q9 false k'=true->kv k=kv k'->k=k')/\(q9 true k=true->q9 true k'=true->kvs k=kvs k'->k=k')
 | .i _,k'=>⟨λJ J e=>(by cases k'<;>first | (cases e; rfl) | cases e),λh J J=>(nt h)⟩
 | .s _,k'=>⟨λJ J e=>(by cases k'<;>first | (cases e; rfl) | cases e),λh J J=>(nt h)⟩
 | .nil,k'=>⟨λJ J e=>(by cases k'<;>first | rfl | cases e),λJ h e=>(by cases k'<;>first | (cases h; done) | (cases e; done) | rfl)⟩
 | .cons a b,.cons c d=>by
  have ha:=(EE a c).1
  have hb:=(EE b d).2
  refine⟨λh h' e=>?_,λh h' e=>?_⟩
  ·have h:(q9 false a&&q9 true b)=true:=h
   have h':(q9 false c&&q9 true d)=true:=h'
   rw[aZ] at h h'
   injection e with e
   injection e with e1 e2
   rw[ha h.1 h'.1 e1,hb h.2 h'.2 e2]
  ·have h:(q9 false a&&q9 true b)=true:=h
   have h':(q9 false c&&q9 true d)=true:=h'
   rw[aZ] at h h'
   have e:kv a::kvs b=kv c::kvs d:=e
   injection e with e1 e2
   rw[ha h.1 h'.1 e1,hb h.2 h'.2 e2]
 | .cons _ _,.i _=>⟨λJ J e=>(by cases e),λJ h J=>(nt h)⟩
 | .cons _ _,.s _=>⟨λJ J e=>(by cases e),λJ h J=>(nt h)⟩
 | .cons _ _,.nil=>⟨λJ J e=>(by cases e),λJ J e=>(by cases e)⟩
theorem tupK.inj{k k':KD}(h:tupK k=true)(h':tupK k'=true)(e:kv k=kv k'):k=k':=(EE k k').1 (tupK.ok h).1 (tupK.ok h').1 e
def gp(sk:List (KD×V)):Prop:=∀p∈sk,tupK p.1=true
theorem gp.nodup{sk:List (KD×V)}(h:gp sk):((i3 kv sk).map (·.1)).Nodup↔(sk.map (·.1)).Nodup:=by
 have e:(i3 kv sk).map (·.1)=(sk.map (·.1)).map kv:=by unfold i3; rw[ef,ef]; rfl
 rw[e]
 have hm:∀x∈sk.map (·.1),tupK x=true:=λx hx=>by
  refine aM (a8.mp hx) λp hp e2r=>?_
  subst e2r
  exact h p hp
 revert hm
 generalize sk.map (·.1)=l
 induction l with
 | nil=>intro _; simp
 | cons k r ih=>
  intro hm
  have ih':=ih λx hx=>hm x (.tail _ hx)
  rw[bQ,fH,fH]
  have:kv k∈r.map kv↔k∈r:=by
   constructor
   ·intro h
    refine aM (a8.mp h) λy hy e=>?_
    exact tupK.inj (hm _ (.tail _ hy)) (hm _ (.head _)) e▸hy
   ·exact λh=>a8.mpr (a0 _ h rfl)
  exact⟨λh=>⟨λhk=>h.1 (this.mpr hk),ih'.mp h.2⟩,λh=>⟨λhk=>h.1 (this.mp hk),ih'.mpr h.2⟩⟩
def GH(g:ac):List (KD×V)->List (KD×Addr×Value)->Prop
 | [],l=>l=[]
 | (x,d)::r,l=>∃a v t,l=(x,a,v)::t/\VR g (kv x) (.ref a)/\VR g d v/\GH g r t
theorem GH.keys{g:ac}{sk:List (KD×V)}:∀{xs:List (KD×Addr×Value)},GH g sk xs->xs.map (·.1)=sk.map (·.1):=by
 induction sk with
 | nil=>exact @λJ h=>by cases h; rfl
 | cons hd0 _ ih=>
  obtain⟨_,_⟩:=hd0
  intro _ z1
  refine mL z1 λJ J J e J J b=>?_
  exact by rw[e]; simp[ih b]
theorem GH.look{g:ac}(k:KD){sk:List (KD×V)}:∀{xs:List (KD×Addr×Value)},GH g sk xs->F7 g (eS sk k) ((atKey xs k).map (·.2)):=by
 induction sk with
 | nil=>exact @λJ h=>by cases h; rfl
 | cons hd0 r ih=>
  obtain⟨x,d⟩:=hd0
  intro _ z1
  refine mL z1 λa v t e J hv b=>?_
  subst e
  have ih:=ih b
  unfold eS atKey at ih ⊢
  dsimp only[cU,cU]
  by_cases q:x=k
  ·simp only[q,decide_true]; exact a0 v rfl hv
  ·simp only[q,decide_false]; exact ih
theorem GH.mapSet{g:ac}(k:KD){d:V}{v:Value}(hv:VR g d v){sk:List (KD×V)}:∀{xs:List (KD×Addr×Value)},GH g sk xs->GH g (sk.map λkv=>if kv.1=k then(kv.1,d) else kv) (xs.map (putAt k v)):=by
 induction sk with
 | nil=>exact @λJ h=>by cases h; rfl
 | cons hd0 r ih=>
  obtain⟨x,d'⟩:=hd0
  intro _ z1
  refine mL z1 λa v' t e h1 h2 b=>?_
  rw[e]
  rw[bQ,bQ]
  have ih:=ih b
  unfold putAt at ih ⊢
  by_cases q:x=k
  ·simp only[q,if_true] at h1 ⊢; exact ub a v _ rfl h1 hv ih
  ·simp only[q,if_false]; exact ub a v' _ rfl h1 h2 ih
theorem GH.snoc{g:ac}{k:KD}{d:V}{a:Addr}{v:Value}(hk:VR g (kv k) (.ref a))(hv:VR g d v){sk:List (KD×V)}:∀{xs:List (KD×Addr×Value)},GH g sk xs->GH g (sk++[(k,d)]) (xs++[(k,a,v)]):=by
 induction sk with
 | nil=>exact @λJ h=>by cases h; exact ub a v [] rfl hk hv rfl
 | cons hd0 _ ih=>
  obtain⟨_,_⟩:=hd0
  intro _ z1
  refine mL z1 λb v' t e x y z=>?_
  exact by subst e; exact ub b v' (t++[(k,a,v)]) rfl x y (ih z)
theorem GH.stored{g:ac}{k:KD}{d:V}{a:Addr}{v:Value}(hk:VR g (kv k) (.ref a))(hv:VR g d v){sk:List (KD×V)}{xs:List (KD×Addr×Value)}(h:GH g sk xs):GH g (dU sk k d) (storedH xs k a v):=by
 delta dU storedH
 have:(sk.any λkv=>kv.1=k)=(atKey xs k).isSome:=by
  have e:=h.keys
  have h1:(sk.any λkv=>decide (kv.1=k))=(sk.map (·.1)).any λy=>decide (y=k):=by rw[j5]; rfl
  have h2:(atKey xs k).isSome=(xs.map (·.1)).any λy=>decide (y=k):=by
   unfold atKey
   rw[Option.isSome_map,II,List.find?_isSome,eu]
   constructor
   ·rintro⟨x,hx,e⟩; exact a0 x.1 (a8.mpr (a0 x hx rfl)) e
   ·intro hq
    refine aM hq λy hy e=>?_
    refine aM (a8.mp hy) λx hx e2r=>?_
    subst e2r
    exact a0 x hx e
  simp only[h1,h2,e]
 rw[this]
 split
 ·exact h.mapSet k hv
 ·exact h.snoc hk hv
theorem IT{g:ac}{h:Heap}(fz:∀a o,g a=.froz o->h.get? a=some o){prog:Program}{w:World}{sk:List (KD×V)}:∀{xs:List (KD×Addr×Value)},gp sk->GH g sk xs->∀x∈xs,(n6 prog w).is h x.1 x.2.1:=by
 induction sk with
 | nil=>exact @λJ J e=>by cases e; exact λJ h=>nomatch h
 | cons kd r ih=>
  intro xs hk z x hx
  refine mL z λa v t e h2 J h3=>?_
  subst e
  rcases aE.mp hx with rfl | hx
  ·have ok:=tupK.ok (hk _ (.head _))
   refine aM (tupK.ref (hk _ (.head _)) ((dz.ofVR fz kd.1).1 _ ok.1 h2)) λb e hb=>?_
   cases e
   exact⟨hb,ok.2.1⟩
  ·exact ih (λp hp=>hk p (.tail _ hp)) h3 x hx
theorem DO{g:ac}{h:Heap}(fz:∀a o,g a=.froz o->h.get? a=some o){prog:Program}{w:World}{sk:List (KD×V)}:∀{es:List DictEntry},gp sk->tI w.params g (lm w.params) (i3 kv sk) es->∃xs,es=xs.map (entryOfKey (n6 prog w))/\GH g sk xs:=by
 induction sk with
 | nil=>exact @λJ J e=>(a0 [] e rfl)
 | cons hd0 r ih=>
  obtain⟨k,d⟩:=hd0
  intro _ hk z2
  obtain⟨e,t,q,⟨h1,h2,h3⟩,hr⟩:=z2
  refine aM (ih (λp hp=>hk p (.tail _ hp)) hr) λxs e1 e2=>?_
  have ok:=tupK.ok (hk _ (.head _))
  refine aM (tupK.ref (hk _ (.head _)) ((dz.ofVR fz k).1 _ ok.1 h2)) λb eb hb=>?_
  subst q
  refine⟨(k,b,e.val)::xs,?_,b,_,_,rfl,eb▸h2,h3,e2⟩
  congr 1
  rw[xC] at h1
  obtain⟨eh,ek,ev⟩:=e
  have h1:eh=_:=h1
  have eb:ek=_:=eb
  rw[h1,eb]; rfl
theorem GH.ers{g:ac}{prog:Program}{w:World}{sk:List (KD×V)}:∀{xs:List (KD×Addr×Value)},GH g sk xs->tI w.params g (lm w.params) (i3 kv sk) (xs.map (entryOfKey (n6 prog w))):=by
 induction sk with
 | nil=>exact @λJ e=>by have e:_=[]:=e; rw[e]; rfl
 | cons hd0 r ih=>
  obtain⟨k,d⟩:=hd0
  intro _ z1
  refine mL z1 λa v t e h1 h2 h3=>?_
  rw[e]
  exact bX _ _ rfl ⟨(xC _ k).symm,h1,h2⟩ (ih h3)
theorem gp.stored{sk:List (KD×V)}{k:KD}{d:V}(h:gp sk)(hk:tupK k=true):gp (dU sk k d):=by
 unfold dU
 split
 ·intro p hp
  refine aM (a8.mp hp) λq hq e2r=>?_
  rw[<-e2r]
  have:=h q hq
  split<;>exact this
 ·intro p hp
  rcases jW.mp hp with hp | hp
  ·exact h p hp
  ·rw[dH] at hp; rw[hp]; exact hk
section
variable{C:Cx}{X:bc}{W:En}{l:Loc}{σ:aK}{Q:V->aK->Prop}
theorem bV.dictT{g:ac}{s:Shared}{i:Nat}{sk:List (KD×V)}{v:Value}(hk:gp sk)(R:bV C g σ s)(hi:σ.get i=some (dO C.w.params (i3 kv sk)))(hv:VR g (.ref i) v) :
  ∃a xs,v=.ref a/\g a=.main i/\(a==sysModules)=false/\s.heap.DictOfH (n6 C.prog C.w) a xs/\GH g sk xs:=by
 refine Jg (R.dAt hi hv) λa es n e3r t hs hn e r=>?_
 subst e3r
 refine aM (DO R.froz (prog:=C.prog) hk r) λxs e1 e2=>?_
 refine G3 a xs rfl t hs (m36 _ es.toArray n e ⟨rfl,rfl,rfl⟩ rfl e1 (IT R.froz hk e2) ?_) e2
 rw[e2.keys]
 exact(gp.nodup hk).mp hn
theorem bV.setDictT{g:ac}{s:Shared}{h':Heap}{tk:Nat}{i:Nat}{a:Addr}{sk:List (KD×V)}{xs:List (KD×Addr×Value)}(hk:gp sk)(R:bV C g σ s)(t:g a=.main i)(hn:(a==sysModules)=false)(hd:h'.DictOfH (n6 C.prog C.w) a xs)(hr:GH g sk xs)(hs:∀b o,b≠a->s.heap.get? b=some o->h'.get? b=some o):bV C g (σ.set i (dO C.w.params (i3 kv sk))) { s with heap:=h',toks:=tk }:=by
 obtain⟨⟨oc,od,oda,osl⟩,es,ep,ho,⟨h1,h2,h3⟩,Cw,he,hi,hnd⟩:=hd
 simp only at h1 h2 h3 Cw
 subst h1; subst h2; subst h3; subst Cw
 have ho':h'.get? a=some (bY es.toList ep):=by rw[ho]
 refine R.upd (o:=dO C.w.params (i3 kv sk)) t (.inl rfl) hs ⟨_,ho'⟩ (OR.dO (by simpa using hn) ((gp.nodup hk).mpr (by rw[<-hr.keys]; exact hnd)) ho' ?_)
 rw[he]; exact hr.ers
theorem k6{g:ac}{k:KD}{v:Value}(hk:tupK k=true)(hv:VR g (kv k) v):∃a,v=.ref a:=by
 rcases tupK.ok hk with ⟨_,_,rfl | ⟨a,b,rfl⟩⟩<;>(obtain⟨c,vs,e,_⟩:=hv; exact⟨c,e⟩)
theorem bV.keyT{g:ac}{s:Shared}{k:KD}{a:Addr}(R:bV C g σ s)(hk:tupK k=true)(hv:VR g (kv k) (.ref a)):(n6 C.prog C.w).is s.heap k a:=by
 have ok:=tupK.ok hk
 refine aM (tupK.ref hk ((dz.ofVR R.froz k).1 _ ok.1 hv)) λb e hb=>?_
 cases e
 exact⟨hb,ok.2.1⟩
theorem SI.dictT{i:Nat}{sk:List (KD×V)}{k:KD}{d:V}(hs:gp sk)(hk:tupK k=true)(hi:σ.get i=some (dO C.w.params (i3 kv sk)))(hx:eS sk k=some d)(h:Q d σ):SI C X W σ (.ref i) (kv k) Q:=by
 rintro g A L s ov iv R hA ho hiv
 refine wq (R.dictT hs hi ho) λa xs e2r ta ns hd hr=>?_
 subst e2r
 obtain⟨b,rfl⟩:=k6 hk hiv
 have hl:=hr.look k
 rw[hx] at hl
 refine aM hl λv hv rv=>?_
 cases hp:atKey xs k with
 | none=>rw[hp] at hv; cases hv
 | some p=>
  rw[hp] at hv
  cases hv
  exact bX ("dict") _ slot_dict_getitem.lookup hd.typeIs (wpAny_getItem_heap (by show A.in1.units+6<cLine; rw[dC]; exact fL hA.units rfl) (R.keyT hk hiv) hd hp (Up.here (R.toks _) rv h))
theorem wK{i:Nat}{sk:List (KD×V)}{k:KD}{d:V}(hs:gp sk)(hk:tupK k=true)(hi:σ.get i=some (dO C.w.params (i3 kv sk)))(h:Q ((eS sk k).getD d) σ):SC C X W σ (.val (.builtin "dict.get")) [.ref i,kv k,d] Q:=by
 rintro g A L s _ _ R hA rfl ⟨v,_,rfl,hv,kv',_,rfl,hkv,u,_,rfl,hu,rfl⟩
 refine wq (R.dictT hs hi hv) λa xs e2r ta ns hd hr=>?_
 subst e2r
 obtain⟨b,rfl⟩:=k6 hk hkv
 refine call_meetsIn PySem.F.slot_dict_get hd.typeIs PySem.F.entry_dict_get (PySem.F.args_dict_get_3 _ _ _) (meetsH_dict_get_default (n6 C.prog C.w) a b ns u) ⟨?_,k,xs,R.keyT hk hkv,hd,?_⟩
 ·show A.in1.units+6<cLine
  rw[dC]; exact fL hA.units rfl
 ·have hl:=hr.look k
  refine Up.here (d:=(eS sk k).getD d) (R.toks _) ?_ h
  cases hq:eS sk k with
  | none=>rw[hq] at hl; have hl:(atKey xs k).map (·.2)=none:=hl; rw[hl]; exact hu
  | some d'=>rw[hq] at hl; refine aM hl λv' e r=>?_; rw[e]; exact r
theorem yB{i:Nat}{sk:List (KD×V)}{k:KD}(hs:gp sk)(hk:tupK k=true)(hi:σ.get i=some (dO C.w.params (i3 kv sk)))(h:Q (.bool (eS sk k).isSome) σ):SV C X W σ [kv k,.ref i] (jA .In) Q:=by
 rintro g A L s _ R hA ⟨v,_,rfl,hv,u,_,rfl,hu,rfl⟩
 refine wq (R.dictT hs hi hu) λa xs e2r ta ns hd hr=>?_
 subst e2r
 obtain⟨b,rfl⟩:=k6 hk hv
 refine wpAny_in_heap (by show A.in1.units+6<cLine; rw[dC]; exact fL hA.units rfl) (R.keyT hk hv) ns hd (Up.here (d:=.bool _) (R.toks _) ?_ h)
 have hl:=hr.look k
 cases hq:eS sk k with
 | none=>rw[hq] at hl; have hl:(atKey xs k).map (·.2)=none:=hl; cases hp:atKey xs k with
  | none=>rfl
  | some p=>rw[hp] at hl; cases hl
 | some d'=>rw[hq] at hl; obtain⟨v',e,r⟩:=hl; cases hp:atKey xs k with
  | none=>rw[hp] at e; cases e
  | some p=>rfl
theorem GH.len{g:ac}{sk:List (KD×V)}{xs:List (KD×Addr×Value)}(h:GH g sk xs):xs.length=sk.length:=by
 have:=congrArg oo h.keys
 rwa [ar,ar] at this
theorem SU.dictT{i:Nat}{sk:List (KD×V)}{k:KD}{d:V}{QU:aK->Prop}(hs:gp sk)(hk:tupK k=true)(hi:σ.get i=some (dO C.w.params (i3 kv sk)))(hz:sk.length<=1000000)(h:QU (σ.set i (dO C.w.params (i3 kv (dU sk k d))))):SU C X W σ (.ref i) (kv k) d QU:=by
 rintro g A L s ov iv v R hA ho hkv hv
 refine wq (R.dictT hs hi ho) λa xs e2r ta ns hd hr=>?_
 subst e2r
 obtain⟨b,rfl⟩:=k6 hk hkv
 exact wpAny_setItem_heap (by show A.in1.units+6<cLine; rw[dC]; exact fL hA.units rfl) (R.keyT hk hkv) hd (λh' hd' hs'=>(bX g _ (dA.refl g) (R.setDictT (hs.stored hk) ta ns hd' (hr.stored hkv hv) (λb o hb e=>(hs'.2 b hb).trans e)) h)) (by rw[hr.len,sizeLine_eq]; exact l1 0 1000000 0 16777216 hz rfl)
end
section
variable{prog:Program}{w:World}{A:Around}{E:Value->Shared->Prop}{s:Shared}{d it:Addr}{es:List DictEntry}{ep i:Nat}
theorem EM{Q:Value->Shared->Prop}(hd:(d==sysModules)=false)(ho:s.heap.get? d=some (bY es ep))
  (hQ:Q (.ref s.heap.objs.size) { s with heap:=s.heap.push { cls:=.type "dict_keyiterator",data:=.fields #[.ref d,.int 0 0,.int es.length 0,.int ep 0] } }) :
  wpAny (model prog w) A (pyIter (.ref d)) Q E s:=by
 have hT:s.TypeIs (.ref d) "dict":=(a0 _ ho rfl)
 refine wpAny_pyIter_slot hT PySem.F.slot_dict_iter (wpAny_call_entry PySem.F.slot_dict_iter hT PySem.F.entry_dict_iter ?_ (PySem.F.args_dict_iter_1 _))
 refine wpAny_bind ?_
 refine bx (λJ=>wpAny_notOrdered_dict hT) ?_
 show wpAny _ _ (pure (i4 d)) _ _ s
 refine wpAny_pure ?_
 show wpAny _ _ (tM d>>=_) _ _ s
 unfold tM
 rw[if_neg ((hd)▸bM)]
 refine bx (λJ=>wpAny_pure) ?_
 refine bx (λJ=>wpAny_dictEntries ho rfl) ?_
 refine bx (λJ=>wpAny_dictEpoch ho rfl) ?_
 refine wpAny_bind (wpAny_newObj_type (wpAny_pure ⟨_,rfl,"dict_keyiterator",_,(a0 _ (ak _ rfl) rfl),PySem.F.slot_dict_keyiterator_next.lookup,?_⟩))
 exact hQ
theorem Es{e:DictEntry}{Q:Option Value->Shared->Prop}(hit:s.heap.IsKeyIter it d i es.length ep)(ho:s.heap.get? d=some (bY es ep))(hx:es[i]?=some e)
  (hQ:∀h',h'.IsKeyIter it d (i+1) es.length ep->bC it s.heap h'->Q (some e.key) { s with heap:=h' }) :
  wpAny (model prog w) A (pyNext (.ref it)) Q E s:=by
 refine lL (id hit) λo hoi hc hd=>?_
 refine wpAny_bind (wpAny_attempt (wpAny_callSpecial?_slot (name:=di "__next__") hit.typeIs PySem.F.slot_dict_keyiterator_next
  (wpAny_call_entry PySem.F.slot_dict_keyiterator_next hit.typeIs PySem.F.entry_dict_keyiterator_next ?_ (PySem.F.args_dict_keyiterator_next_1 _))))
 refine bx (λJ=>wpAny_pure) ?_
 refine wpAny_bind ?_
 refine wpAny_bind ?_
 first | refine wpAny_bind (wpAny_typeNameOfWhole_keyiter hit.typeIs (wpAny_pure ?_)) | refine wpAny_bind (wpAny_typeNameOf_keyiter hit.typeIs (wpAny_pure ?_))
 refine bx (λJ=>wpAny_fieldsOf hoi hd) ?_
 have hown:m5 "dict_keyiterator"=false:=by decide
 show wpAny _ _ (if (i4 d==gT)=true then _ else _) _ _ s
 refine bx (λJ=>wpAny_pure) ?_
 refine bx (λJ=>wpAny_dictEntries ho rfl) ?_
 refine yq (by simp) ?_
 refine bx (λJ=>wpAny_pure) ?_
 refine bx (λJ=>wpAny_dictEpoch ho rfl) ?_
 refine yq (by simp) ?_
 refine wpAny_pure ?_
 have hlt':es.toArray[i]?=some e:=by simpa using hx
 simp only[show ¬((i:Int)<0) from by exact ey.mpr (cY _),if_false,eQ,hlt']
 refine wpAny_bind ?_
 first | refine wpAny_bind (wpAny_typeNameOfWhole_keyiter hit.typeIs (wpAny_pure ?_)) | refine wpAny_bind (wpAny_typeNameOf_keyiter hit.typeIs (wpAny_pure ?_))
 refine bx (λJ=>wpAny_isOneOf_keyiter hit.typeIs) ?_
 show wpAny _ _ (setField (.ref it) 1 (rawInt ((i:Int)+1))>>=_) _ _ s
 refine wpAny_bind (wpAny_setField hoi hd (by simp) ?_)
 have hit':(s.heap.update it (bF (·.setIfInBounds 1 (rawInt ((i:Int)+1))))).IsKeyIter it d (i+1) es.length ep:=
  (lz _ (ay _ hoi (C2 (kW hd _))) ((HJ ..).trans hc) (by rw[kW hd]; simp[rawInt]))
 refine wpAny_bind (wpAny_holding ?_)
 refine bx (λJ=>wpAny_isOneOf_keyiter (s:={ s with heap:=s.heap.update it (bF (·.setIfInBounds 1 (rawInt ((i:Int)+1)))) }) hit'.typeIs) ?_
 exact wpAny_pure (wpAny_pure (a0 _ rfl (wpAny_pure (hQ _ hit' (aD ..)))))
theorem Ho{Q:Option Value->Shared->Prop}(hh:A.handled=none)(hit:s.heap.IsKeyIter it d i es.length ep)(ho:s.heap.get? d=some (bY es ep))(hx:es.length<=i)
  (hQ:∀h',ij it s.heap h'->Q none { s with heap:=h' }):wpAny (model prog w) A (pyNext (.ref it)) Q E s:=by
 refine lL (id hit) λo hoi hc hd=>?_
 refine wpAny_bind (wpAny_attempt (wpAny_callSpecial?_slot (name:=di "__next__") hit.typeIs PySem.F.slot_dict_keyiterator_next
  (wpAny_call_entry PySem.F.slot_dict_keyiterator_next hit.typeIs PySem.F.entry_dict_keyiterator_next ?_ (PySem.F.args_dict_keyiterator_next_1 _))))
 refine bx (λJ=>wpAny_pure) ?_
 refine wpAny_bind ?_
 refine wpAny_bind ?_
 first | refine wpAny_bind (wpAny_typeNameOfWhole_keyiter hit.typeIs (wpAny_pure ?_)) | refine wpAny_bind (wpAny_typeNameOf_keyiter hit.typeIs (wpAny_pure ?_))
 refine bx (λJ=>wpAny_fieldsOf hoi hd) ?_
 have hown:m5 "dict_keyiterator"=false:=by decide
 show wpAny _ _ (if (i4 d==gT)=true then _ else _) _ _ s
 refine bx (λJ=>wpAny_pure) ?_
 refine bx (λJ=>wpAny_dictEntries ho rfl) ?_
 refine yq (by simp) ?_
 refine bx (λJ=>wpAny_pure) ?_
 refine bx (λJ=>wpAny_dictEpoch ho rfl) ?_
 refine yq (by simp) ?_
 refine wpAny_pure ?_
 have hge:es.toArray.size<=i:=by exact hx
 simp only[show ¬((i:Int)<0) from by exact ey.mpr (cY _),if_false,eQ,d7 hge]
 refine wpAny_bind ?_
 first | refine wpAny_bind (wpAny_typeNameOfWhole_keyiter hit.typeIs (wpAny_pure ?_)) | refine wpAny_bind (wpAny_typeNameOf_keyiter hit.typeIs (wpAny_pure ?_))
 show wpAny _ _ (setField (.ref it) 0 .none>>=_) _ _ s
 refine wpAny_bind (wpAny_setField hoi hd (by simp) ?_)
 show wpAny _ _ (newExc (.type "StopIteration") []>>=_) _ _ _
 refine wpAny_bind ?_
 refine wpAny_bind (wpAny_newObj_type ?_ (by size_fits))
 refine wpAny_bind (m:=firstArgMember _ _) (wpAny_of_eq (a:=gT) (by first | rfl | (simp only[firstArgMember]; rfl)) ?_)
 refine wpAny_newObj_type ?_ (by size_fits)
 refine bx (λJ=>wpAny_handled) ?_
 rw[show A.in1.handled=none from hh]
 refine wpAny_bind (wpAny_pure (wpAny_throw ?_))
 refine wpAny_bind (wpAny_isInstance (T:="StopIteration") (b:=true) (a0 _ (ak _ rfl) rfl) isSubtype_stop ?_)
 exact wpAny_pure (hQ _ (((aD ..).extBut.push _).push _))
theorem zr{R:Result->Shared->Prop}{D:Addr}{res:Value}(hh:A.handled=none)(hdi:d≠it)(hz:es.length<=1000) :
  ∀(k i:Nat)(s:Shared)(acc:List Value)(c:Nat),es.length - i=k->i<=es.length->s.heap.IsKeyIter it d i es.length ep->s.heap.get? d=some (bY es ep)->s.heap.get? D=some (aR acc c)->acc.length<=i->D≠it->
   (∀h' c',h'.get? D=some (aR (acc++(es.drop i).map (·.key)) c')->(∀b o,b≠D->b≠it->s.heap.get? b=some o->h'.get? b=some o)->R (.ok (.ret res)) { s with heap:=h' })->
   codeAny (model prog w) A (.builtin "list.extend.loop" ⟨[.ref D,.ref it,res],[]⟩) R s:=by
 intro k
 induction k with
 | zero=>
  intro i s acc c hk hi hst hd hD hacc hDI hR
  refine codeAny_builtin PySem.F.entry_extend_loop ?_
  show wpAny _ A.in1 (pyNext (.ref it)>>=_) _ _ s
  refine tj (λJ=>Ho (by exact hh) hst hd (cu hk)) λh' hx=>?_
  refine wpAny_pure (hR h' c ?_ λb o J hb e=>hx b o hb e)
  rw[iE (cu hk),K6,dq]
  exact hx D _ hDI hD
 | succ k ih=>
  intro i s acc c hk hi hst hd hD hacc hDI hR
  have hlt:i<es.length:=by exact je ‹_›
  refine codeAny_builtin PySem.F.entry_extend_loop ?_
  show wpAny _ A.in1 (pyNext (.ref it)>>=_) _ _ s
  refine wpAny_bind (Es hst hd (aI hlt) λh' hst' hs'=>?_)
  have hD':h'.get? D=some (aR acc c):=(hs'.2 D hDI).trans hD
  have hd':h'.get? d=some (bY es ep):=(hs'.2 d hdi).trans hd
  have hdD:d≠D:=λq=>by rw[q,hD'] at hd'; simp at hd'
  refine wpAny_bind ?_
  have hz1:acc.toArray.size<=sizeLine:=by rw[ao,sizeLine_eq]; exact lc 0 0 0 1000 0 16777216 hacc (lc 0 0 0 1000 0 1000 hi hz rfl) rfl
  refine wpAny_updateSeq hD' rfl (wpAny_pure ⟨plainId_quiet PySem.F.plain_extend_loop _,ih (i+1) _ (acc++[es[i].key]) (if (acc.toArray.push es[i].key).size==acc.toArray.size then c else c+1) (by(rw[rM,‹_ - _=_›]; rfl)) hlt ?_ ((ba _ _ (bA hdD)).trans hd') ?_ ?_ hDI λh'' c'' hD'' hk''=>?_⟩) hz1 (by rw[m6,ao,sizeLine_eq]; exact bJ ‹_›)
  ·refine aM hst' λoi h1 h2=>?_
   exact a0 oi ((ba _ _ hDI).trans h1) h2
  ·refine(ay _ hD' rfl).trans ?_
   simp[cO]
  ·rw[fy,BB]; exact bJ ‹_›
  ·refine hR h'' c'' ?_ λb o hb hb' e=>hk'' b o hb hb' ((ba _ _ (bA hb)).trans ((hs'.2 b hb').trans e))
   rw[hD'',iF,gF hlt,bQ]; rfl
theorem xT{Q:List Value->Shared->Prop}(hh:A.handled=none)(hd:(d==sysModules)=false)(ho:s.heap.get? d=some (bY es ep))(hz:es.length<=1000)
  (hQ:∀(h':Heap),s.heap.objs.size<=h'.objs.size->(∀b o,s.heap.get? b=some o->h'.get? b=some o)->Q (es.map (·.key)) { s with heap:=h' }) :
  wpAny (model prog w) A (collect (.ref d)) Q E s:=by
 unfold collect
 refine wpAny_bind (wpAny_runValue (codeAny_builtin PySem.F.entry_proto_collect ?_))
 refine bx (λJ=>wpAny_newObj_type) ?_
 refine wpAny_pure ⟨plainId_quiet PySem.F.plain_list_iadd _,codeAny_builtin PySem.F.entry_list_iadd ?_⟩
 show wpAny _ A.in1 (pM (.ref s.heap.objs.size) (.ref d) (.ref s.heap.objs.size)) _ _ _
 have hlt:d<s.heap.objs.size:=aJ ho
 have hD:(s.heap.push (aR [] 0)).get? s.heap.objs.size=some (aR [] 0):=ak _ rfl
 have ho1:(s.heap.push (aR [] 0)).get? d=some (bY es ep):=ab _ ho
 have hT1:Shared.TypeIs { s with heap:=s.heap.push (aR [] 0) } (.ref d) "dict":=(a0 _ ho1 rfl)
 have hsz:(s.heap.push (aR [] 0)).objs.size=s.heap.objs.size+1:=fh ..
 refine bx (λJ=>wpAny_typeOf hT1) ?_
 have h1:ry (.ref s.heap.objs.size) (.ref d)=false:=by
  show(s.heap.objs.size==d)=false
  exact beq_eq_false_iff_ne.mpr (bP hlt)
 have h2:(b9 "dict"==b9 "list")=false:=by decide
 have h3:(b9 "dict"==b9 "tuple")=false:=by decide
 simp only[h1,h2,h3,yp,fB,if_false]
 refine bx (λJ=>EM (s:={ s with heap:=s.heap.push (aR [] 0) }) hd ho1) ?_
 have hT2:Shared.TypeIs { s with heap:=(s.heap.push (aR [] 0)).push { cls:=.type "dict_keyiterator",data:=.fields #[.ref d,.int 0 0,.int es.length 0,.int ep 0] } } (.ref d) "dict":=(a0 _ (ab _ ho1) rfl)
 refine bx (λJ q=>wpAny_holding (kdl_hint_dict hT2 q)) ?_
 have hit:((s.heap.push (aR [] 0)).push { cls:=.type "dict_keyiterator",data:=.fields #[.ref d,.int 0 0,.int es.length 0,.int ep 0] }).IsKeyIter (s.heap.push (aR [] 0)).objs.size d 0 es.length ep:=(lz _ (ak _ rfl) rfl rfl)
 have ho2:((s.heap.push (aR [] 0)).push { cls:=.type "dict_keyiterator",data:=.fields #[.ref d,.int 0 0,.int es.length 0,.int ep 0] }).get? d=some (bY es ep):=ab _ ho1
 have hD2:((s.heap.push (aR [] 0)).push { cls:=.type "dict_keyiterator",data:=.fields #[.ref d,.int 0 0,.int es.length 0,.int ep 0] }).get? s.heap.objs.size=some (aR [] 0):=ab _ hD
 have hold:∀b o,s.heap.get? b=some o->((s.heap.push (aR [] 0)).push { cls:=.type "dict_keyiterator",data:=.fields #[.ref d,.int 0 0,.int es.length 0,.int ep 0] }).get? b=some o:=λb o e=>ab _ (ab _ e)
 have hIt:(s.heap.push (aR [] 0)).objs.size=s.heap.objs.size+1:=hsz
 generalize ((s.heap.push (aR [] 0)).push { cls:=.type "dict_keyiterator",data:=.fields #[.ref d,.int 0 0,.int es.length 0,.int ep 0] })=h2 at hit ho2 hD2 hold ⊢
 generalize (s.heap.push (aR [] 0)).objs.size=I at hit hIt ⊢
 have fin:∀(h4:Heap)(c:Nat),h4.IsKeyIter I d 0 es.length ep->h4.get? d=some (bY es ep)->h4.get? s.heap.objs.size=some (aR [] c)->(∀b o,b≠s.heap.objs.size->h2.get? b=some o->h4.get? b=some o)->
   codeAny (model prog w) A (.builtin "list.extend.loop" ⟨[.ref s.heap.objs.size,.ref I,.ref s.heap.objs.size],[]⟩) (λr s'=>∃h',r=.ok (.ret (.ref s.heap.objs.size))/\s'={ s with heap:=h' }/\∃c',h'.get? s.heap.objs.size=some (aR (es.map (·.key)) c')/\∀b o,s.heap.get? b=some o->h'.get? b=some o) { s with heap:=h4 }:=by
  intro h4 c hi4 ho4 hD4 k4
  refine zr (d:=d) (it:=I) (es:=es) (ep:=ep) hh (by rw[hIt]; exact aB (cx hlt)) hz es.length 0 { s with heap:=h4 } [] c (by rfl) (aH _) hi4 ho4 hD4 (ad _) (by rw[hIt]; exact aB (bU _)) λh5 c5 hD5 hk5=>?_
  refine⟨h5,rfl,rfl,c5,by simpa using hD5,λb o e=>?_⟩
  have hb:=aJ e
  exact hk5 b o (aB hb) (by rw[hIt]; exact aB (cx hb)) (k4 b o (aB hb) (hold b o e))
 have done:∀(r:Result)(s':Shared),(∃h',r=.ok (.ret (.ref s.heap.objs.size))/\s'={ s with heap:=h' }/\∃c',h'.get? s.heap.objs.size=some (aR (es.map (·.key)) c')/\∀b o,s.heap.get? b=some o->h'.get? b=some o)->∃f,r=.ok (.ret f)/\wpAny (model prog w) A (do
   let o <-load (match f with | .ref a=>a | _=>0)
   match o.data with
   | .seq xs _=>pure xs.toList
   | _=>unsupported "internal:collect") Q E s':=by
  rintro r s' ⟨h',rfl,rfl,c',h1,h2⟩
  refine a0 _ rfl (wpAny_bind (wpAny_load h1 (wpAny_pure ?_)))
  have:=hQ h' (cJ (aJ h1)) h2
  exact this
 refine wpAny_ite_split (λJ=>?_) (λJ=>wpAny_pure ⟨plainId_quiet PySem.F.plain_extend_loop _,codeAny_mono (fin _ 0 hit ho2 hD2 λb o J e=>e) λr s' x=>?_⟩)
 ·refine wpAny_bind (wpAny_rule ?_)
  refine wpAny_bind ?_
  refine bx (λJ q=>wpAny_updateSeq hD2 rfl q (by decide) (by decide)) ?_
  have hD3:=ay (cO (·.push gT)) hD2 rfl
  refine wpAny_updateSeq hD3 rfl ?_ (by simp[sizeLine_eq]) (by decide)
  have hD4:=ay (cO (·.pop)) hD3 rfl
  have k4:∀b o,b≠s.heap.objs.size->h2.get? b=some o->((h2.update s.heap.objs.size (cO (·.push .none))).update s.heap.objs.size (cO (·.pop))).get? b=some o:=λb o hb e=>
   (ba _ _ (bA hb)).trans ((ba _ _ (bA hb)).trans e)
  refine wpAny_pure ⟨plainId_quiet PySem.F.plain_extend_loop _,codeAny_mono (fin _ 2 ?_ (k4 _ _ (aB hlt) ho2) hD4 k4) λr s' x=>?_⟩
  ·refine aM hit λoi e1 e2=>?_
   exact a0 oi (k4 _ _ (by exact bP (am hIt.symm)) e1) e2
  ·refine aM (done r s' x) λf e1r hw=>?_
   subst e1r
   obtain⟨h',e,_⟩:=x
   cases e
   exact hw
 ·refine aM (done r s' x) λf e1r hw=>?_
  subst e1r
  obtain⟨h',e,_⟩:=x
  cases e
  exact hw
end
theorem uv{h:Heap}{ks:List KD}:∀{vs:List Value},ks.length=vs.length->(∀(j:Nat)(k:KD)(v:Value),ks[j]?=some k->vs[j]?=some v->dz h k v)->kP h ks vs:=by
 induction ks with
 | nil=>
  intro vs e _
  cases vs with
  | nil=>rfl
  | cons _ _=>cases e
 | cons k ks ih=>
  intro vs e h
  cases vs with
  | nil=>cases e
  | cons v vs=>exact bX v vs rfl (h 0 k v rfl rfl) (ih (pG e) λj k v h1 h2=>h (j+1) k v h1 h2)
theorem tI.at{P:Params}{g:ac}{hk:V->Int}:∀{kvs:List (V×V)}{es:List DictEntry}{j:Nat}{e:DictEntry},tI P g hk kvs es->es[j]?=some e->∃p,kvs[j]?=some p/\VR g p.1 e.key/\VR g p.2 e.val:=by
 intro kvs
 induction kvs with
 | nil=>exact @λJ J J q h=>by cases q; cases h
 | cons kv r ih=>
  intro es j e z h
  refine bD z λe' t q a hr=>?_
  subst q
  cases j with
  | zero=>cases h; exact lz _ rfl a.2.1 a.2.2
  | succ j=>exact ih (j:=j) hr h
section
variable{C:Cx}{X:bc}{W:En}{l:Loc}{σ:aK}{Q:V->aK->Prop}
theorem rV{i:Nat}{sk:List (KD×V)}(hcalm:W.calm=true)(hs:gp sk)(hi:σ.get i=some (dO C.w.params (i3 kv sk)))(hc:wt (sk.map (·.1)))(hz:sk.length<64)(h:Q (.ref σ.nx) (σ.push (.list ((iU (sk.map (·.1))).map kv)))):SC C X W σ (.val (.builtin "sorted")) [.ref i] Q:=by
 intro g A L s _ _ R hA rfl hq
 refine bD hq λv J e2r hv e4r=>?_
 subst e2r
 subst e4r
 refine Jg (R.dAt hi hv) λa es n e3r t hsm hn e r=>?_
 subst e3r
 have hlen:=r.length
 have hl2:(i3 kv sk).length=sk.length:=by unfold i3; rw[ar]
 have hk:kP s.heap (sk.map (·.1)) (es.map (·.key)):=uv (by rw[ar,ar]; exact ck (lc 0 0 0 0 0 0 (am hl2.symm) (am hlen) rfl) (lc 0 0 0 0 0 0 (am hlen.symm) (am hl2) rfl)) λj k v h1 h2=>by
  rw[bB] at h1 h2
  refine aM (aY.mp h1) λp hp e2r=>?_
  rw[<-e2r]
  refine aM (aY.mp h2) λen hen e2r=>?_
  rw[<-e2r]
  refine lL (r.at hen) λq hq h3 J=>?_
  unfold i3 at hq
  rw[bB,hp] at hq
  cases hq
  exact(dz.ofVR R.froz p.1).1 _ (tupK.ok (hs _ (cD hp))).1 h3
 have hvr:d0 g ((sk.map (·.1)).map kv) (es.map (·.key)):=hk.vr λb hb=>by
  refine aM (a8.mp hb) λen hen eb=>?_
  obtain⟨j,hj⟩:=nB.mp hen
  refine lL (r.at hj) λq hq h3 J=>?_
  unfold i3 at hq
  rw[bB] at hq
  refine aM (aY.mp hq) λp hp e2r=>?_
  subst e2r
  rw[eb] at h3
  exact a0 p.1 h3 ((dz.ofVR R.froz p.1).1 _ (tupK.ok (hs _ (cD hp))).1 h3)
 have hok:yj (sk.map (·.1)):=λk hk=>by
  refine aM (a8.mp hk) λp hp e2r=>?_
  subst e2r
  exact(tupK.ok (hs p hp)).1
 refine si (λord h'=>ord=es.map (·.key)) R (fL hA.units rfl) hc (by rw[ar]; exact hz) (λQ' q=>?_) (λord h' hC k=>?_) h
 ·refine xT (by simpa using hA.calm hcalm) hsm e (by exact lc 0 0 0 63 0 1000 (am hlen.symm) (lc 0 0 0 63 0 63 (am hl2) (l1 1 64 0 63 hz rfl) rfl) rfl) λh' h1 k=>?_
  exact q _ h' s.drawn s.toks _ rfl (hk.keeps λa vs e=>k _ _ e) (.refl _) k
 ·subst hC
  intro b hb
  refine aM (yg.ofVR R.froz hok hvr b hb) λk' e1 e2=>?_
  exact a0 k' e1 (e2.keeps λa vs e=>k _ _ e)
noncomputable def zl(i:Nat):V:=.pk (λJ vs o=>∃d,vs=[.ref d]/\o={ cls:=.type "dict_items",data:=.fields #[.ref d] }) [.ref i]
theorem DF{i:Nat}{kvs:List (Str×V)}(hi:σ.get i=some (dO C.w.params (i3 V.str kvs)))(h:Q (zl i) σ):SC C X W σ (.val (.builtin "dict.items")) [.ref i] Q:=by
 intro g A L s _ _ R hA rfl hq
 refine bD hq λv J e2r hv e4r=>?_
 subst e2r
 subst e4r
 refine wq (R.dictK (encStr _ _) hi hv) λa vs e2r ta ns hd hr=>?_
 subst e2r
 refine call_meetsIn PySem.F.slot_dict_items hd.typeIs PySem.F.entry_dict_items (PySem.F.args_dict_items_1 _) (meets_dict_items (PySem.strKind C.prog C.w) a ns) ⟨⟨vs,hd⟩,?_⟩
 refine eV (R.newFroz { cls:=.type "dict_items",data:=.fields #[.ref a] } rfl) λR' x=>?_
 exact⟨zl i,_,σ,x,R',⟨_,[.ref a],_,rfl,aC ..,⟨a,rfl,rfl⟩,_,[],rfl,hv.ext x.v,rfl⟩,h⟩
theorem bV.freezeAll{s:Shared}(as:List Addr):∀(g:ac),bV C g σ s->as.Nodup->(∀a∈as,g a=.free/\∃vs,s.heap.get? a=some (aN vs))->∃g',dA g g'/\bV C g' σ s/\(∀a∈as,∀vs,s.heap.get? a=some (aN vs)->g' a=.froz (aN vs))/\∀b,b∉as->g' b=g b:=by
 induction as with
 | nil=>exact @λg R J J=>(La g (dA.refl g) R (λJ h=>(by cases h)) (λJ J=>rfl))
 | cons a as ih=>
  intro g R hn h
  rw[fH] at hn
  obtain⟨hf,vs,hg⟩:=h a (.head _)
  have x:dA g (g.put a (.froz (aN vs))):=dA.put hf _
  have R1:=R.retag (a:=a) (t:=.froz (aN vs)) (by rw[hf]; exact λh=>h) hg
  obtain⟨g',x',R',hall,hoth⟩:=ih _ R1 hn.2 λb hb=>⟨by rw[a9 g _ (show b≠a from λq=>hn.1 (q▸hb))]; exact(h b (.tail _ hb)).1,(h b (.tail _ hb)).2⟩
  refine La g' (x.trans x') R' (λb hb us hu=>?_) (λb hb=>by rw[hoth b λq=>hb (.tail _ q),a9 g _ (show b≠a from λq=>hb (q▸.head _))])
  rcases aE.mp hb with rfl | hb
  ·rw[hg] at hu
   rw[x' b (by rw[aC]; exact λh=>nomatch h),aC,aw hu]
  ·exact hall b hb us hu
noncomputable def mP(p:Str×Int):KD:=.cons (.s p.1) (.cons (.i p.2) .nil)
theorem Cv{g:ac}{sk:List (Str×Int)}:∀{kvs:List (Str×Value)}{j:Nat}{k:Str}{x:Value},GR g (sk.map λp=>(p.1,V.int p.2)) kvs->kvs[j]?=some (k,x)->∃p,sk[j]?=some p/\p.1=k/\∃t,x=.int p.2 t:=by
 induction sk with
 | nil=>exact @λJ J J J hr hj=>by cases hr; cases hj
 | cons p r ih=>
  intro kvs j k x hr hj
  refine bD hr λv t e hv hr2=>?_
  subst e
  cases j with
  | zero=>cases hj; exact lz p rfl rfl hv
  | succ j=>exact ih (j:=j) hr2 hj
theorem EN{P:Params}{g:ac}{prog:Program}{w:World}{sk:List (Str×Int)}{kvs:List (Str×Value)}{n:Nat}{h':Heap}{as:List Addr}(hok:∀p∈sk,cE p.1=true)(hr:GR g (sk.map λp=>(p.1,V.int p.2)) kvs)(hl:as.length=kvs.length)(hlen:kvs.length=sk.length)(hG:KdxG (PySem.strKind prog w) kvs n h' as):kP h' (sk.map mP) (as.map i4):=by
 refine uv (by rw[ar,ar,hl,hlen]) λj k' v e1 e2=>?_
 rw[bB] at e1 e2
 refine aM (aY.mp e1) λp hp e2r=>aM (aY.mp e2) λx hx e3r=>?_
 subst e2r; subst e3r
 refine lW (hG.pairs j x hx) λkey kk y e3 e4 e5=>lL (Cv hr e3) λp' hp' e6 e7=>?_
 cases hp.symm.trans hp'
 refine ik e7 λt e7=>?_
 obtain⟨tk',e8⟩:=ot (x:=kk) (v:=key) e4
 subst e6; subst e7; subst e8
 exact⟨x,_,_,rfl,e5,⟨hok p (cD hp),tk',rfl⟩,_,_,rfl,⟨t,rfl⟩,rfl⟩
theorem Hg{g':ac}{h':Heap}{as:List Addr}(hall:∀a∈as,∀vs,h'.get? a=some (aN vs)->g' a=.froz (aN vs)){ks:List KD}:∀{out:List Value},(∀k∈ks,∃p,k=mP p)->kP h' ks out->(∀b,i4 b∈out->i4 b∈as.map i4)->d0 g' (ks.map kv) out:=by
 induction ks with
 | nil=>exact @λJ J hk J=>hk
 | cons k r ih=>
  intro out hp z hm
  refine bD z λv t e hv hr=>?_
  subst e
  refine bX v t rfl ?_ (ih (λk hk=>hp k (.tail _ hk)) hr λb hb=>hm b (.tail _ hb))
  refine ik (hp k (.head _)) λp e=>?_
  subst e
  refine mL hv λb u r' e hb hu hr'=>bD hr' λu2 r2 e2 hu2 hr2=>?_
  cases hr2; subst e2; subst e
  refine aM (a8.mp (hm b (.head _))) λb' hb' e=>?_
  cases e
  exact⟨b,[u,u2],rfl,hall b hb' _ hb,u,_,rfl,hu.2,u2,_,rfl,hu2,rfl⟩
theorem rU{i:Nat}{sk:List (Str×Int)}(hcalm:W.calm=true)(hi:σ.get i=some (dO C.w.params (i3 V.str (sk.map λp=>(p.1,V.int p.2)))))(hok:∀p∈sk,cE p.1=true)(hc:wt (sk.map mP))(hz:sk.length<64)(h:Q (.ref σ.nx) (σ.push (.list ((iU (sk.map mP)).map kv)))):SC C X W σ (.val (.builtin "sorted")) [zl i] Q:=by
 rintro g A L s _ _ R hA rfl ⟨v,_,rfl,⟨b,vs,_,rfl,tb,⟨d,rfl,rfl⟩,⟨_,_,e1,hv,rfl⟩⟩,rfl⟩
 injection e1 with e1 e2
 subst e1
 refine wq (R.dictK (encStr _ _) hi hv) λa kvs ea ta ns hd hr=>?_
 cases ea
 obtain⟨ep,hat⟩:=hd.dictAt
 have hlen:kvs.length=sk.length:=by
  have:=congrArg oo hr.keys
  simpa using this
 have hview:s.heap.IsItemsView b d:=(lz _ (R.froz _ _ tb) rfl rfl)
 refine wX (ks:=sk.map mP) (λord h'=>∃as,ord=as.map i4/\as.length=kvs.length/\KdxG (PySem.strKind C.prog C.w) kvs s.heap.objs.size h' as) (fL hA.units rfl) hc (by rw[ar]; exact hz) (λQ' q=>?_) λord h1 d' tk a' h' out c hC hk hm hs2 ho k1 k2=>?_
 ·refine kdx_collect (A:=A.in1) (knd:=PySem.strKind C.prog C.w) (kvs:=kvs) (ep:=ep) (by simpa using hA.calm hcalm) hview hat (by exact lc 0 0 0 63 0 16777216 (am hlen) (l1 1 64 0 63 hz rfl) rfl) λh' tk as k hl hG=>?_
  refine q _ h' s.drawn tk (sk.map mP) (lz as rfl hl hG) (EN (P:=C.w.params) hok hr hl hlen hG) (.refl _) k
 ·refine lL hC λas e1r hl hG=>?_
  subst e1r
  have R1:bV C g σ { s with heap:=h',drawn:=d',toks:=tk }:=R.keeps λb o e=>k2 b o (k1 b o e)
  obtain⟨g',x',R',hall,hoth⟩:=R1.freezeAll as g (hG.rise.imp λh=>aB h) λa ha=>by
   refine⟨R.free_size (cJ (hG.above a ha)),?_⟩
   refine ik (nB.mp ha) λj hj=>?_
   refine lW (hG.pairs j a hj) λkey kk y e3 e4 e5=>?_
   exact⟨[key,y],k2 _ _ e5⟩
  have hv2:=Hg hall (λk hk=>by
   refine aM (a8.mp ((jB _).mem_iff.mp hk)) λp J e=>?_
   exact⟨p,e.symm⟩) hk hm
  have hnot:a'∉as:=λq=>by
   obtain⟨j,hj⟩:=nB.mp q
   refine lW (hG.pairs j a' hj) λJ J J J J e5=>?_
   exact absurd (aJ e5) (kX.mpr hs2)
  obtain⟨dd,gg,ss,xx,RR,VV,QQ⟩:Up C g' Q (.ref a') { s with heap:=h',drawn:=d',toks:=tk }:=by
   have none_:s.heap.get? a'=none:=by
    cases q:s.heap.get? a' with
    | none=>rfl
    | some o=>exact absurd (aJ (k1 _ _ q)) (kX.mpr hs2)
   have hfree:g' a'=.free:=(hoth a' hnot).trans (R.free_none none_)
   have x:dA g' (g'.put a' (.main σ.nx)):=dA.put hfree _
   exact⟨.ref σ.nx,_,_,x,R'.newMain (o:=.list ((iU (sk.map mP)).map kv)) hfree (R.h0_none' none_) (rn out c ho (hv2.ext x.v)) ⟨_,ho⟩,(a0 _ rfl (aC ..)),h⟩
  exact⟨dd,gg,ss,x'.trans xx,RR,VV,QQ⟩
end
theorem uc:typeLookup (.type "tuple") "keys"=pure none:=by kernel_rfl
section
variable{prog:Program}{w:World}{A:Around}{E:Value->Shared->Prop}{s:Shared}
theorem Jk{a:Addr}{vs:List Value}{Q:Option Value->Shared->Prop}(hh:A.handled=none)(hx:s.heap.get? a=some (aN vs))
  (hq:∀h' tk,(∀b o,s.heap.get? b=some o->h'.get? b=some o)->Q none { s with heap:=h',toks:=tk }):wpAny (model prog w) A (getAttr? (.ref a) "keys") Q E s:=by
 obtain⟨hp,g,d,tk,os⟩:=s
 have hT:∀tk',(⟨hp,g,d,tk',os⟩:Shared).TypeIs (.ref a) "tuple":=λJ=>(a0 _ hx rfl)
 have f1:=sub_AttributeError
 have f3:=PySem.F.slot_tuple_getattribute.lookup
 have f4:=PySem.F.slot_tuple_getattribute.bind (.ref a)
 have f5:=am_tuple_getattr_none
 repeat (any_goals (first | assumption | exact hT _ | ((with_reducible show wpAny _ _ (call (Value.builtin "tuple.__getattribute__") _ _) _ _ _); refine call_meets PySem.F.slot_tuple_getattribute (hT _) am_entry_tuple_getattribute (PySem.F.args_tuple_getattribute_2 _ _) (meets_getattribute_miss_tuple a vs.toArray 0 #[] "keys" _ uc (by decide+kernel) (by size_fits)) ⟨hx,hh,λh' tk' e hx'=>?_⟩) | wp_step))
 refine za hx'.there λt' u' he=>?_
 unfold getattributeRaised
 repeat (any_goals (first | assumption | wp_step))
 exact hq _ _ hx'.keeps
theorem hJ:entryFor table "dict.update.loop"=some Builtin.«dict.update.loop»:=entryFor_of_tree (by kernel_rfl)
theorem gX:plainId "dict.update.loop"=true:=by decide+kernel
def hV(h:Heap):List (Str×Value)->List Value->Prop
 | [],vs=>vs=[]
 | (k,x)::r,vs=>∃a t tk,vs=.ref a::t/\h.get? a=some (aN [.str k tk,x])/\hV h r t
theorem hV.length{h:Heap}:∀{ps:List (Str×Value)}{vs:List Value},hV h ps vs->ps.length=vs.length
 | [],_,e=>by have e:_=[]:=e; rw[e]; rfl
 | _::_,_,⟨_,_,_,e,_,r⟩=>by rw[e]; exact congrArg bf r.length
theorem hV.get{h:Heap}:∀{ps:List (Str×Value)}{vs:List Value}{i:Nat},hV h ps vs->i<vs.length->∃k x a tk,ps[i]?=some (k,x)/\vs[i]?=some (.ref a)/\h.get? a=some (aN [.str k tk,x]):=by
 intro ps
 induction ps with
 | nil=>exact @λJ J e h=>by cases e; cases h
 | cons p ps ih=>
  intro vs i z hi
  refine lW z λa t tk e h1 r=>?_
  subst e
  cases i with
  | zero=>exact m43 p.1 p.2 a tk rfl rfl h1
  | succ i=>exact ih (i:=i) r (em hi)
theorem hV.keeps{h h':Heap}(k:∀a vs,h.get? a=some (aN vs)->h'.get? a=some (aN vs)):∀{ps:List (Str×Value)}{vs:List Value},hV h ps vs->hV h' ps vs
 | [],_,e=>e
 | _::_,_,⟨a,t,tk,e,h1,r⟩=>(G2 a t tk e (k _ _ h1) (r.keeps k))
noncomputable def putAll(kvs:List (Str×Value))(ps:List (Str×Value)):List (Str×Value):=ps.foldl (λkvs p=>PySem.stored kvs p.1 p.2) kvs
theorem Ch{R:Result->Shared->Prop}{D It T:Addr}{vs:List Value}{ps:List (Str×Value)}{res:Value}(hh:A.handled=none)(hDI:D≠It)(hz:vs.length<1000) :
  ∀(k i:Nat)(s:Shared)(kvs:List (Str×Value)),vs.length - i=k->i<=vs.length->s.heap.IsTupleIter It T i->s.heap.get? T=some (aN vs)->hV s.heap ps vs->s.heap.DictOf (PySem.strKind prog w) D kvs->kvs.length<=i->
   (∀h' tk,h'.DictOf (PySem.strKind prog w) D (putAll kvs (ps.drop i))->(∀b o,b≠D->b≠It->s.heap.get? b=some o->h'.get? b=some o)->R (.ok (.ret res)) { s with heap:=h',toks:=tk })->
   codeAny (model prog w) A (.builtin "dict.update.loop" ⟨[.ref D,.ref It,rawInt i,res],[]⟩) R s:=by
 intro k
 induction k with
 | zero=>
  intro i s kvs hk hi hit hT hps hD hlen hR
  refine codeAny_builtin hJ ?_
  refine tj (λJ=>wpAny_pyNext_tuple_end (by exact hh) hit ⟨_,hT,rfl,0,rfl⟩ (d7 (cu hk))) λh' hx=>?_
  refine wpAny_bind (wpAny_pure (wpAny_pure (hR h' s.toks ?_ λb o J hb e=>hx b o hb e)))
  have:ps.drop i=[]:=iE (by rw[hps.length]; exact cu hk)
  simp only[this]
  refine wo hD λod es ep ho r=>?_
  exact J5 od es ep (hx D _ hDI ho) r
 | succ k ih=>
  intro i s kvs hk hi hit hT hps hD hlen hR
  have hlt:i<vs.length:=by exact je ‹_›
  refine o43 (hps.get hlt) λkey x a tk e1 e2 e3=>?_
  refine codeAny_builtin hJ ?_
  show wpAny _ A.in1 (pyNext (.ref It)>>=_) _ _ s
  refine tj (λJ=>wpAny_pyNext_tuple_item hit ⟨_,hT,rfl,0,rfl⟩ (x:=.ref a) (by simpa using e2)) λh' hit' hs'=>?_
  have nI:∀a vs,s.heap.get? a=some (aN vs)->h'.get? a=some (aN vs):=λa vs e=>by
   refine(hs'.2 a λq=>?_).trans e
   refine lL hit λoi h1 h2 J=>?_
   rw[q,h1] at e
   injection e with e
   rw[e] at h2
   exact absurd h2 (show b9 "tuple"≠_ by decide)
  have ha':=nI _ _ e3
  refine wpAny_bind (wpAny_holding (wpAny_bind (wpAny_tryCatch ?_)))
  refine wpAny_bind (wpAny_typeOf (a0 _ ha' rfl) ?_)
  refine wpAny_bind (wpAny_seqItems ha' rfl (wpAny_pure ?_))
  have hD':h'.DictOf (PySem.strKind prog w) D kvs:=by
   refine wo hD λod es ep ho r=>?_
   exact J5 od es ep ((hs'.2 D hDI).trans ho) r
  refine wpAny_holding (wpAny_dictSet_pairs (knd:=PySem.strKind prog w) (k:=key) (iz key tk) hD' (λh2 hD2 hs2=>?_) (by exact lc 0 0 0 999 0 16777216 hlen (lc 0 0 0 999 0 999 hi (l1 1 1000 0 999 hz rfl) rfl) rfl))
  have keep2:∀a vs,h'.get? a=some (aN vs)->h2.get? a=some (aN vs):=λa vs e=>by
   refine(hs2.2 a λq=>?_).trans e
   refine lW hD' λod es ep ho hex J=>?_
   rw[q,ho] at e
   injection e with e
   rw[e] at hex
   exact absurd hex.1 (show b9 "tuple"≠_ by decide)
  have hit2:h2.IsTupleIter It T (i+1):=by
   refine aM hit' λoi h1 h2'=>?_
   exact a0 oi ((hs2.2 It (bA hDI)).trans h1) h2'
  refine wpAny_pure ⟨plainId_quiet gX _,ih (i+1) _ (PySem.stored kvs key x) (by(rw[rM,‹_ - _=_›]; rfl)) hlt hit2 (keep2 _ _ (nI _ _ hT)) (hps.keeps λa vs e=>keep2 _ _ (nI _ _ e)) hD2 ?_ λh3 tk3 hD3 hk3=>?_⟩
  ·unfold PySem.stored
   split
   ·rw[ar]; exact l1 0 0 0 1 hlen rfl
   ·simp; exact hlen
  ·refine hR h3 tk3 ?_ λb o hb hb' e=>hk3 b o hb hb' ((hs2.2 b hb).trans ((hs'.2 b hb').trans e))
   have hi':i<ps.length:=by rw[hps.length]; exact hlt
   have:ps.drop i=(key,x)::ps.drop (i+1):=by
    rw[gF hi']
    congr 1
    rw[aI hi'] at e1
    exact aw e1
   rw[this]; exact hD3
theorem J7{T:Addr}{vs:List Value}{ps:List (Str×Value)}{Q:Value->Shared->Prop}(hh:A.handled=none)(hT:s.heap.get? T=some (aN vs))(hps:hV s.heap ps vs)(hz:vs.length<1000)
  (h:∀h' tk,h'.DictOf (PySem.strKind prog w) s.heap.objs.size (putAll [] ps)->(∀b o,s.heap.get? b=some o->h'.get? b=some o)->Q (.ref s.heap.objs.size) { s with heap:=h',toks:=tk }) :
  wpAny (model prog w) A (call (.type "dict") [.ref T]) Q E s:=by
 refine callType_codes (Q₁:=λobj aQ=>obj=.ref s.heap.objs.size/\aQ={ s with heap:=s.heap.push { cls:=.type "dict",data:=.dict #[] } }) PySem.F.kt_called_dict (PySem.F.kt_typeCall_dict_1 _) PySem.F.entry_dict_init (kt_code_dict_new _ ⟨rfl,rfl⟩) ?_
 rintro obj aQ ⟨rfl,rfl⟩
 have hnew:(s.heap.push { cls:=.type "dict",data:=.dict #[] }).DictOf (PySem.strKind prog w) s.heap.objs.size []:=AJ s.heap
 have hT1:(s.heap.push { cls:=.type "dict",data:=.dict #[] }).get? T=some (aN vs):=ab _ hT
 refine⟨hnew.typeIs,PySem.F.args_dict_init_2 _ _,?_⟩
 dsimp only[Builtin.«dict.__init__»]
 refine wpAny_bind ?_
 refine bx (λJ=>wpAny_notOrdered_dict hnew.typeIs) ?_
 refine wpAny_pure ?_
 show wpAny _ _ (Builtin.Dict.updateFrom "dict.__init__" s.heap.objs.size (.ref T) [] .none) _ _ _
 refine bx (λJ=>wpAny_typeOf (a0 _ hT1 rfl)) ?_
 refine tj (λJ=>Jk (by exact hh) hT1) λh2 tk2 k2=>?_
 refine wpAny_bind (wpAny_rule (wpAny_bind (wpAny_pyIter_tuple ⟨_,k2 _ _ hT1,rfl,0,rfl⟩ ?_)))
 have hold:∀b o,s.heap.get? b=some o->(h2.push { cls:=.type "tuple_iterator",data:=.fields #[.ref T,.int 0 0] }).get? b=some o:=λb o e=>ab _ (k2 _ _ (ab _ e))
 have hDlt:s.heap.objs.size<h2.objs.size:=by
  refine wo hnew λod es ep ho J=>?_
  exact aJ (k2 _ _ ho)
 refine wpAny_pure ⟨plainId_quiet gX _,Ch (T:=T) (vs:=vs) (ps:=ps) (by exact hh) (aB hDlt) hz vs.length 0 _ [] (by rfl) (aH _) (lz _ (ak _ rfl) rfl rfl) (hold _ _ hT) (hps.keeps λa vs e=>hold _ _ e) ?_ (ad _) λh' tk hD hk=>?_⟩
 ·refine wo hnew λod es ep ho r=>?_
  exact J5 od es ep (ab _ (k2 _ _ ho)) r
 ·refine⟨rfl,h h' tk hD λb o e=>hk b o (aB (aJ e)) ?_ (hold b o e)⟩
  have:=aJ (k2 b o (ab _ e))
  exact aB this
end
section
variable{K:Type} [DecidableEq K]
noncomputable def lf(sk:List (K×V))(k:K):List (K×V):=sk.filter λkv=>decide (kv.1≠k)
theorem GR.without{g:ac}(k:K){sk:List (K×V)}:∀{kvs:List (K×Value)},GR g sk kvs->GR g (lf sk k) (PySem.without kvs k):=by
 induction sk with
 | nil=>exact @λJ h=>by cases h; rfl
 | cons hd0 r ih=>
  obtain⟨x,d⟩:=hd0
  intro _ z1
  refine bD z1 λv t e a b=>?_
  rw[e]
  have ih:=ih b
  unfold lf PySem.without at ih ⊢
  simp only[l7,l7]
  by_cases q:x=k
  ·simp only[q,ne_eq,not_true_eq_false,decide_false,fB,if_false]; exact ih
  ·simp only[ne_eq,q,not_false_eq_true,decide_true,if_true]; exact bX v _ rfl a ih
end
section
variable{C:Cx}{X:bc}{W:En}{l:Loc}{σ:aK}{Q:V->aK->Prop}{K:Type} [DecidableEq K]{knd:PySem.KeyKind C.prog C.w K}{enc:K->V}
theorem wJ{i:Nat}{sk:List (K×V)}{k:K}{d:V}(eo:l0 C.prog C.w knd enc)(hp:∀g v,VR g (enc k) v->(keyPart v).isSome=true)(hi:σ.get i=some (dO C.w.params (i3 enc sk)))(hx:eS sk k=some d)(hz:sk.length<=1000000)(h:Q d (σ.set i (dO C.w.params (i3 enc (lf sk k))))):SC C X W σ (.val (.builtin "dict.pop")) [.ref i,enc k] Q:=by
 rintro g A L s _ _ R hA rfl ⟨v,_,rfl,hv,kv,_,rfl,hk,rfl⟩
 refine wq (R.dictK eo hi hv) λa kvs e2r ta ns hd hr=>?_
 subst e2r
 have hl:=hr.look k
 rw[hx] at hl
 refine aM hl λu hu ru=>?_
 have hlen:kvs.length<=sizeLine:=by
  have:=congrArg oo hr.keys
  rw[ar,ar] at this
  rw[this,sizeLine_eq]; exact l1 0 1000000 0 16777216 hz rfl
 refine call_meetsIn PySem.F.slot_dict_pop hd.typeIs PySem.F.entry_dict_pop (PySem.F.args_dict_pop_2 _ _) (meets_dict_pop_there knd a (k:=k) (eo.is_of hk) [] (.inl rfl) (hp g _ hk)) (Im kvs u hd hlen hu (λh' hd' hs'=>?_))
 exact⟨d,g,_,dA.refl g,R.setDictK eo ta ns hd' (hr.without k) (λb o hb e=>(hs'.2 b hb).trans e),ru,h⟩
theorem vd{i:Nat}{sk:List (K×V)}(eo:l0 C.prog C.w knd enc)(hi:σ.get i=some (dO C.w.params (i3 enc sk)))(hz:sk.length<=1000000)(h:Q (.ref σ.nx) (σ.push (dO C.w.params (i3 enc sk)))):SC C X W σ (.val (.type "dict")) [.ref i] Q:=by
 intro g A L s _ _ R hA rfl hq
 refine bD hq λv J e2r hv e4r=>?_
 subst e2r
 subst e4r
 refine wq (R.dictK eo hi hv) λa kvs e2r ta ns hd hr=>?_
 subst e2r
 have hlen:kvs.length<=sizeLine:=by
  have:=congrArg oo hr.keys
  rw[ar,ar] at this
  rw[this,sizeLine_eq]; exact l1 0 1000000 0 16777216 hz rfl
 refine kt_call_dict (knd:=knd) ns hd hlen λh' hd' hs=>?_
 exact ky (tk:=s.toks) eo R (R.free_size (ad _)) (R.h0_size (ad _)) (R.big (ad _)) hd' hr (λb o hb e=>(hs.2 b hb).trans (ab _ e)) h
noncomputable def El(p:Str×V):V:=.tup [.str p.1,p.2]
noncomputable def vI(sk:List (Str×V))(ps:List (Str×V)):List (Str×V):=ps.foldl (λs p=>dU s p.1 p.2) sk
theorem GR.putAll{g:ac}{ps:List (Str×V)}:∀{qs:List (Str×Value)}{sk:List (Str×V)}{kvs:List (Str×Value)},GR g ps qs->GR g sk kvs->GR g (vI sk ps) (Mine.Internal.putAll kvs qs):=by
 induction ps with
 | nil=>exact @λJ J J h h'=>by cases h; exact h'
 | cons hd0 r ih=>
  obtain⟨x,d⟩:=hd0
  intro _ _ _ z3 h'
  refine bD z3 λv t e a b=>?_
  subst e
  have:=ih b (h'.stored (k:=x) a)
  exact this
theorem Ej{g:ac}{h:Heap}(fz:∀a o,g a=.froz o->h.get? a=some o){ps:List (Str×V)}:∀{vs:List Value},d0 g (ps.map El) vs->∃qs,hV h qs vs/\GR g ps qs:=by
 induction ps with
 | nil=>exact @λJ e=>(a0 [] e rfl)
 | cons hd0 r ih=>
  obtain⟨x,d⟩:=hd0
  intro _ z1
  obtain⟨v,t,e,⟨a,us,e1,hg,⟨u,_,e2,⟨tk,hu⟩,w,_,e3,hw,e4⟩⟩,h2⟩:=z1
  refine aM (ih h2) λqs q1 q2=>?_
  subst e; subst e1; subst e2; subst e3; subst e4; subst hu
  exact a0 ((x,w)::qs) ⟨a,t,tk,rfl,fz _ _ hg,q1⟩ ⟨w,qs,rfl,hw,q2⟩
theorem SC.dictPairs{ps:List (Str×V)}(hcalm:W.calm=true)(hz:ps.length<1000)(h:Q (.ref σ.nx) (σ.push (dO C.w.params (i3 V.str (vI [] ps))))):SC C X W σ (.val (.type "dict")) [.tup (ps.map El)] Q:=by
 rintro g A L s _ _ R hA rfl ⟨v,_,rfl,⟨a,vs,rfl,hg,hvs⟩,rfl⟩
 refine aM (Ej R.froz hvs) λqs q1 q2=>?_
 refine J7 (hA.calm hcalm) (R.froz _ _ hg) q1 (by have:=hvs.length; rw[ar] at this; exact lc 0 0 0 999 1 1000 (am this.symm) (l1 1 1000 0 999 hz rfl) rfl) λh' tk hd hk=>?_
 exact ky (tk:=tk) (encStr _ _) R (R.free_size (ad _)) (R.h0_size (ad _)) (R.big (ad _)) hd (GR.putAll (sk:=[]) q2 rfl) (λb o hb e=>hk b o e) h
end
section
variable{prog:Program}{w:World}{A:Around}{E:Value->Shared->Prop}{s:Shared}{T:Type} [DecidableEq T]{knd:HeapKind prog w T}
theorem q7{d a:Addr}{xs:List (T×Addr×Value)}{k:T}{v:Value}{Q:Value->Shared->Prop}(hu:knd.room A)(hkey:knd.is s.heap k a)(hm:s.heap.DictOfH knd d xs)
  (hthere:∀p,atKey xs k=some p->Q p.2 { s with toks:=s.toks+knd.draws k })
  (hnot:atKey xs k=none->∀h',h'.DictOfH knd d (storedH xs k a v)->bC d s.heap h'->Q v { s with heap:=h',toks:=s.toks+knd.draws k })
  (hsz:xs.length<=sizeLine):wpAny (model prog w) A (dictSetDefault d (.ref a) v) Q E s:=by
 refine Jg hm λo es ep ho hc hd he his hn=>?_
 refine wpAny_holding ?_
 refine bx (λJ=>knd.pyHash hu hkey) ?_
 refine wpAny_bind (wpAny_dictFind_heap (s:={ s with toks:=s.toks+knd.draws k }) hu hkey ho hd he his hn ?_ ?_)
 ·intro hno
  have hnk:k∉xs.map (·.1):=not_mem_keys_of_get hno
  have hnone:=atKey_none_of_get hno
  refine wpAny_bind (wpAny_rule (wpAny_bind (wpAny_updateDictKeys (hz:=by have e:=size_of_entries he; exact lc 0 0 0 0 0 0 (am e) hsz rfl) (s:={ s with toks:=s.toks+knd.draws k }) ho hd (wpAny_pure (hnot hnone _ (m36 _ _ (ep+1) (ay _ ho (Obj.isFreed_of_dict (C9 hd _))) (hc.mapDictKeys _) (C9 hd _) ?_ ?_ ?_) (aD ..))))))
  ·rw[storedH_new hnone]
   simp[he,entryOfKey]
  ·rw[storedH_new hnone]
   intro x hx
   refine dn (jW.mp hx) (λhx=>?_) (λhx=>?_)
   ·exact knd.keeps (his x hx) ho hd (aD ..)
   ·simp only[dH] at hx
    rw[hx]
    exact knd.keeps hkey ho hd (aD ..)
  ·rw[storedH_new hnone]
   rw[dX,lA]
   refine⟨hn,by simp,?_⟩
   intro x hx y hy
   simp only[bQ,K6,dH] at hy
   rw[hy]
   exact λe=>hnk (e▸hx)
 ·intro j p hj
  refine bx (λJ=>wpAny_dictEntries (s:={ s with toks:=s.toks+knd.draws k }) ho hd) ?_
  rw[entry_at he j,hj]
  exact wpAny_bind (wpAny_rule (wpAny_pure (hthere p (atKey_of_get hn hj))))
end
section
variable{C:Cx}{X:bc}{W:En}{l:Loc}{σ:aK}{Q:V->aK->Prop}
theorem rW{i:Nat}{sk:List (KD×V)}{k:KD}{d:V}(hs:gp sk)(hk:tupK k=true)(hi:σ.get i=some (dO C.w.params (i3 kv sk)))(hz:sk.length<=1000000)
  (h:match eS sk k with | some d'=>Q d' σ | none=>Q d (σ.set i (dO C.w.params (i3 kv (dU sk k d))))):SC C X W σ (.val (.builtin "dict.setdefault")) [.ref i,kv k,d] Q:=by
 rintro g A L s _ _ R hA rfl ⟨v,_,rfl,hv,kv',_,rfl,hkv,u,_,rfl,hu,rfl⟩
 refine wq (R.dictT hs hi hv) λa xs e2r ta ns hd hr=>?_
 subst e2r
 obtain⟨b,rfl⟩:=k6 hk hkv
 have hl:=hr.look k
 refine wpAny_call_entry PySem.F.slot_dict_setdefault hd.typeIs PySem.F.entry_dict_setdefault ?_ (PySem.F.args_dict_setdefault_3 _ _ _)
 refine wpAny_bind ?_
 refine bx (λJ q=>wpAny_notOrdered_dict hd.typeIs q) ?_
 refine wpAny_pure ?_
 show wpAny _ _ (if (a==sysModules)=true then _ else(dictSetDefault a (.ref b) u>>=_)) _ _ s
 refine yq (by rw[ns]; exact bM) ?_
 refine wpAny_bind (q7 (by show A.in1.units+6<cLine; rw[dC]; exact fL hA.units rfl) (R.keyT hk hkv) hd (λp hp=>?_) (λhp h' hd' hs'=>?_) (by rw[hr.len,sizeLine_eq]; exact l1 0 1000000 0 16777216 hz rfl))
 ·rw[hp] at hl
  cases hq:eS sk k with
  | none=>rw[hq] at hl; cases hl
  | some d'=>
   rw[hq] at hl h
   refine aM hl λv' e r=>?_
   cases e
   exact wpAny_pure (a0 _ rfl (Up.here (R.toks _) r h))
 ·rw[hp] at hl
  cases hq:eS sk k with
  | some d'=>rw[hq] at hl; refine aM hl λv' e r=>?_; cases e
  | none=>
   rw[hq] at h
   exact wpAny_pure ⟨_,rfl,d,g,_,dA.refl g,R.setDictT (hs.stored hk) ta ns hd' (hr.stored hkv hu) (λb o hb e=>(hs'.2 b hb).trans e),hu,h⟩
end
theorem vY{g:ac}{ns:List Int}:∀{vs:List Value},d0 g (ns.map V.int) vs->∃xs:Array (Int×Tok),vs.toArray=intItems xs/\xs.toList.map (·.1)=ns:=by
 induction ns with
 | nil=>exact @λJ h=>by cases h; exact a0 (#[]) (by simp[intItems]) rfl
 | cons n ns ih=>
  intro _ z1
  obtain⟨v,r,e,⟨t,h1⟩,h2⟩:=z1
  refine aM (ih h2) λxs e1 e2=>?_
  subst e; subst h1
  refine a0 (((n,t)::xs.toList).toArray) ?_ ?_
  ·unfold intItems at e1 ⊢
   have:r=(xs.toList.map λp=>i5 p.1 p.2):=by
    have:=congrArg Array.toList e1
    simpa using this
   rw[this]; simp
  ·simp[e2]
section
variable{prog:Program}{w:World}{A:Around}{E:Value->Shared->Prop}{s:Shared}{l:Addr}{xs:Array (Int×Tok)}
theorem qK{Q:Value->Shared->Prop}(hl:s.heap.IsTuple l (intItems xs))
  (h:∀b8:Shared,b8={ s with heap:=s.heap.push { cls:=.type "tuple_iterator",data:=.fields #[.ref l,.int 0 0] } }->
   (b8.heap.IsTupleIter s.heap.objs.size l 0/\b8.heap.IsTuple l (intItems xs))->(∀b∈[s.heap.objs.size,l],b<b8.heap.objs.size)->l≠s.heap.objs.size->Q (.ref s.heap.objs.size) b8) :
  wpAny (model prog w) A (pyIter (.ref l)) Q E s:=by
 have hlt:l<s.heap.objs.size:=by refine aM hl λJ e J=>?_; exact aJ e
 refine wpAny_pyIter_tuple hl (h _ rfl ⟨(lz _ (ak _ rfl) rfl rfl),hl.push _⟩ (λb hb=>?_) (aB hlt))
 simp only[fh]
 rcases aE.mp hb with rfl | hb
 ·exact bU _
 ·rcases aE.mp hb with rfl | hb
  ·exact cx hlt
  ·cases hb
theorem uG{h':Heap}(hk:∀b o,b∉[s.heap.objs.size]->(s.heap.push { cls:=.type "tuple_iterator",data:=.fields #[.ref l,.int 0 0] }).get? b=some o->h'.get? b=some o) :
  ∀b o,s.heap.get? b=some o->h'.get? b=some o:=λb o e=>by
 refine hk b o (λhm=>?_) (ab _ e)
 rcases aE.mp hm with e1 | hm
 ·exact absurd (e1▸aJ e) (eU _)
 ·cases hm
theorem yT{Q:Value->Shared->Prop}(hh:A.handled=none)(hl:s.heap.IsTuple l (intItems xs))(hfit:∀j,j<xs.size->InLong (numAt xs j)/\InLong (preSum (numAt xs) (j+1)))
  (h:∀h' tk t',(∀b o,s.heap.get? b=some o->h'.get? b=some o)->Q (.int (preSum (numAt xs) xs.size) t') { s with heap:=h',toks:=tk }) :
  wpAny (model prog w) A (call (.builtin "sum") [.ref l]) Q E s:=by
 refine call_sum_walk (qK hl λb8 e st hfp hlI=>?_)
 subst e
 refine⟨_,_,_,_,_,_,numAt xs,rfl,Walks.tuple (A:=A.in1) hh _ l hlI (intItems xs),st,hfp,(λJ J=>intItems_at),(λj hj=>hfit j (by simpa [intItems] using hj)),λh' tk t' hk=>?_⟩
 have:=h h' tk t' (uG hk)
 simpa [intItems] using this
theorem zd{Q:Value->Shared->Prop}(hh:A.handled=none)(hl:s.heap.IsTuple l (intItems xs))(hne:0<xs.size)
  (h:∀v h' tk,(intItems xs)[argBest (λi j=>decide (numAt xs i<numAt xs j)) (xs.size - 1)]?=some v->(∀b o,s.heap.get? b=some o->h'.get? b=some o)->Q v { s with heap:=h',toks:=tk }) :
  wpAny (model prog w) A (call (.builtin "min") [.ref l]) Q E s:=by
 refine call_min_walk (qK hl λb8 e st hfp hlI=>?_)
 subst e
 refine⟨_,_,_,_,_,_,_,rfl,Walks.tuple (A:=A.in1) hh _ l hlI (intItems xs),st,hfp,by simpa [intItems] using hne,CmpOf.ints_lt (numAt xs) (λJ J=>intItems_at),λv h' tk hP hk=>?_⟩
 exact h v h' tk (by simpa [intItems] using hP) (uG hk)
end
section
variable{C:Cx}{X:bc}{W:En}{l:Loc}{σ:aK}{Q:V->aK->Prop}
def Bu(ns:List Int):Prop:=∀j,j<ns.length->InLong (ns.getD j 0)/\InLong ((ns.take (j+1)).sum)
theorem rT{d:V}{ns:List Int}(hc:W.calm=true)(hl:IsL σ d (ns.map V.int))(hf:Bu ns)(h:Q (.int ns.sum) σ):SC C X W σ (.val (.builtin "sum")) [d] Q:=by
 intro g A L s _ _ R hA rfl hq
 refine bD hq λv J e2r hv e4r=>?_
 subst e2r
 subst e4r
 refine lW (hl.at R hv) λa vs n e3r ho hvs=>?_
 rw[e3r]
 refine aM (vY hvs) λxs e1 e2=>?_
 have hsz:xs.size=ns.length:=by rw[<-e2,ar,aP]
 refine sum_intList (xs:=xs) (hA.calm hc) (e1▸du ho) (λj hj=>?_) λh' tk t' hk=>?_
 ·rw[numAt_eq,preSum_eq,e2]; exact hf j (by exact aL ‹_› ‹_›)
 ·simp only[preSum_eq,e2,hsz,l6]
  exact Up.here (d:=.int _) (R.keeps hk) ⟨_,rfl⟩ h
theorem BT{ns:List Int}(hc:W.calm=true)(hf:Bu ns)(h:Q (.int ns.sum) σ):SC C X W σ (.val (.builtin "sum")) [.tup (ns.map V.int)] Q:=by
 rintro g A L s _ _ R hA rfl ⟨v,_,rfl,⟨a,vs,rfl,hg,hvs⟩,rfl⟩
 refine aM (vY hvs) λxs e1 e2=>?_
 have hsz:xs.size=ns.length:=by rw[<-e2,ar,aP]
 refine yT (xs:=xs) (hA.calm hc) ⟨_,R.froz _ _ hg,rfl,0,by rw[<-e1]⟩ (λj hj=>?_) λh' tk t' hk=>?_
 ·rw[numAt_eq,preSum_eq,e2]; exact hf j (by exact aL ‹_› ‹_›)
 ·simp only[preSum_eq,e2,hsz,l6]
  exact Up.here (d:=.int _) (R.keeps hk) ⟨_,rfl⟩ h
theorem yF{d:V}{ns:List Int}{m:Int}(hc:W.calm=true)(hl:IsL σ d (ns.map V.int))(hm:m∈ns)(hb:∀a∈ns,a<=m)(h:Q (.int m) σ):SC C X W σ (.val (.builtin "max")) [d] Q:=by
 intro g A L s _ _ R hA rfl hq
 refine bD hq λv J e2r hv e4r=>?_
 subst e2r
 subst e4r
 refine lW (hl.at R hv) λa vs n e3r ho hvs=>?_
 rw[e3r]
 refine aM (vY hvs) λxs e1 e2=>?_
 have hsz:xs.size=ns.length:=by rw[<-e2,ar,aP]
 have hpos:0<xs.size:=by rw[hsz]; exact AH hm
 refine max_intList (xs:=xs) (hA.calm hc) (e1▸du ho) hpos λv h' tk hv hk=>?_
 obtain⟨t,rfl⟩:=intItems_at hv
 obtain⟨h1,h2⟩:=argBest_gt (numAt xs) (xs.size - 1)
 have:numAt xs (argBest (λi j=>decide (numAt xs i>numAt xs j)) (xs.size - 1))=m:=by
  refine J0 (hb _ ?_) ?_
  ·rw[numAt_eq,e2]; exact getD_mem (by exact ah h1 (af (am (dI hpos)) (am hsz)))
  ·refine aM (mem_getD hm) λj hj e=>?_
   rw[<-e,<-e2,<-numAt_eq]; exact h2 j (aW (aL hj hsz.symm))
 rw[this]
 exact Up.here (d:=.int _) (R.keeps hk) ⟨_,rfl⟩ h
theorem BU{ns:List Int}{m:Int}(hc:W.calm=true)(hm:m∈ns)(hb:∀a∈ns,m<=a)(h:Q (.int m) σ):SC C X W σ (.val (.builtin "min")) [.tup (ns.map V.int)] Q:=by
 rintro g A L s _ _ R hA rfl ⟨v,_,rfl,⟨a,vs,rfl,hg,hvs⟩,rfl⟩
 refine aM (vY hvs) λxs e1 e2=>?_
 have hsz:xs.size=ns.length:=by rw[<-e2,ar,aP]
 have hpos:0<xs.size:=by rw[hsz]; exact AH hm
 refine zd (xs:=xs) (hA.calm hc) ⟨_,R.froz _ _ hg,rfl,0,by rw[<-e1]⟩ hpos λv h' tk hv hk=>?_
 obtain⟨t,rfl⟩:=intItems_at hv
 obtain⟨h1,h2⟩:=argBest_lt (numAt xs) (xs.size - 1)
 have:numAt xs (argBest (λi j=>decide (numAt xs i<numAt xs j)) (xs.size - 1))=m:=by
  refine J0 ?_ (hb _ ?_)
  ·refine aM (mem_getD hm) λj hj e=>?_
   rw[<-e,<-e2,<-numAt_eq]; exact h2 j (aW (aL hj hsz.symm))
  ·rw[numAt_eq,e2]; exact getD_mem (by exact ah h1 (af (am (dI hpos)) (am hsz)))
 rw[this]
 exact Up.here (d:=.int _) (R.keeps hk) ⟨_,rfl⟩ h
end
section
variable{prog:Program}{w:World}{A:Around}{E:Value->Shared->Prop}{s:Shared}
theorem JF{a b:Int}{t u:Tok}{Q:Bool->Shared->Prop}(h:Q (decide (a=b)) s):wpAny (model prog w) A (eqBool (.int a t) (.int b u)) Q E s:=
 (PySem.intKind prog w).eqBool (a:=a) (b:=b) (intKind_is _ _ _ t) (intKind_is _ _ _ u) h
theorem Bb{vs:List Value}{k:Int}{t:Tok}{ns:List Int}{j:Nat}{Q:Option PySem.Fin×Unit->Shared->Prop}(hI:IntsAre vs ns)(hj:ns[j]?=some k)(hno:∀m,m<j->ns[m]?≠some k)
  (h:∀u tk,Q (some (.done (.ret (.int (j:Nat) u))),()) { s with toks:=tk }):∀(n a:Nat),a<=j->j<a+n->wpAny (model prog w) A (forIn (C4 a n) ((none:Option PySem.Fin),()) λ(i:Nat)(J:Option PySem.Fin×Unit)=>match vs.toArray[i]? with
   | some y=>do
    let b <-eqBool y (.int k t)
    if b=true then do
     let r <-retInt (i:Int)
     pure (ForInStep.done (some r,()))
    else pure (ForInStep.yield (none,()))
   | _=>pure (ForInStep.yield (none,()))) Q E s
 | 0,a,h1,h2=>absurd h2 (by exact me ‹_›)
 | n+1,a,h1,h2=>by
  rw[HL,eK]
  have hjl:=(ly.mp hj).1
  have ha:a<ns.length:=by exact ah ‹_› ‹_›
  refine ik (hI.get a ns[a] (aI ha)) λu hu=>?_
  have hu':vs.toArray[a]?=some (.int ns[a] u):=by simpa using hu
  rw[hu']
  refine wpAny_bind (bx (λJ=>JF) ?_)
  by_cases q:a=j
  ·subst q
   rw[aI ha] at hj
   have e:ns[a]=k:=aw hj
   refine K8 (decide_eq_true e) ?_
   exact wpAny_bind (wpAny_bind (wpAny_mkInt (wpAny_pure (wpAny_pure (wpAny_pure (h _ _))))))
  ·have e:ns[a]≠k:=λe=>hno a (by exact aG ‹_› ‹_›) (by rw[aI ha,e])
   refine yq (by simpa using e) ?_
   refine wpAny_pure ?_
   exact Bb hI hj hno h n (a+1) (by exact aG ‹_› ‹_›) (aL h2 (aV a n).symm)
theorem yS{l:Addr}{vs:List Value}{k:Int}{t:Tok}{ns:List Int}{j:Nat}{Q:PySem.Fin->Shared->Prop}(hl:s.heap.get? l=some (aN vs))(hI:IntsAre vs ns)(hj:ns[j]?=some k)(hno:∀m,m<j->ns[m]?≠some k)
  (h:∀u tk,Q (.done (.ret (.int (j:Nat) u))) { s with toks:=tk }):wpAny (model prog w) A (Builtin.«tuple.index» ⟨[.ref l,.int k t],[]⟩) Q E s:=by
 unfold Builtin.«tuple.index»
 refine wpAny_bind (m:=PySem.selfAndSome "tuple.index" "index" 1 3 ⟨[.ref l,.int k t],[]⟩) (wpAny_pure ?_)
 refine wpAny_bind ?_
 refine wpAny_bind (wpAny_seqItems hl rfl (wpAny_pure ?_))
 dsimp only
 refine wpAny_bind (wpAny_pure (wpAny_bind (wpAny_pure ?_)))
 have hjl:j<vs.length:=by rw[hI.length]; exact(ly.mp hj).1
 rw[Std.Legacy.Range.forIn_eq_forIn_range']
 have hr:([:min vs.toArray.size vs.toArray.size]:Std.Legacy.Range).size=vs.length:=by
  simp[Std.Legacy.Range.size]
 rw[hr]
 refine wpAny_bind (Bb hI hj hno (λu tk=>?_) vs.length 0 (aH _) (aL hjl (el _).symm))
 exact wpAny_pure (h u tk)
end
section
variable{C:Cx}{X:bc}{W:En}{l:Loc}{σ:aK}{Q:V->aK->Prop}
theorem d0.ints{g:ac}{ns:List Int}:∀{vs:List Value},d0 g (ns.map V.int) vs->IntsAre vs ns:=by
 induction ns with
 | nil=>exact @λJ h=>by cases h; exact .nil
 | cons n ns ih=>
  intro _ z1
  obtain⟨v,r,e,⟨t,h1⟩,h2⟩:=z1
  exact by subst e; subst h1; exact .cons n t (ih h2)
theorem wH{ns:List Int}{k:Int}{j:Nat}(hj:ns[j]?=some k)(hno:∀m,m<j->ns[m]?≠some k)(h:Q (.int (j:Int)) σ):SC C X W σ (.val (.builtin "tuple.index")) [.tup (ns.map V.int),.int k] Q:=by
 rintro g A L s _ _ R hA rfl ⟨v,_,rfl,⟨a,vs,rfl,hg,hvs⟩,u,_,rfl,⟨t,rfl⟩,rfl⟩
 have hg':=R.froz _ _ hg
 refine wpAny_call_entry PySem.F.slot_tuple_index (a0 _ hg' rfl) PySem.F.entry_tuple_index ?_ (PySem.F.args_tuple_index_2 _ _)
 exact yS hg' hvs.ints hj hno λu tk=>(a0 _ rfl (Up.here (d:=.int _) (R.toks _) ⟨_,rfl⟩ h))
theorem _root_.PyProof.Rows.StrsAre.count{vs:List Value}{xs:List Str}(h:StrsAre vs xs)(x:Str):vs.countP (λy=>jd x y)=xs.countP λy=>y==x:=by
 induction h with
 | nil=>rfl
 | cons y ty _ ih=>rw[l8,l8,ih]; rfl
theorem tS{d:V}{xs:List Str}{x:Str}(hl:IsL σ d (xs.map V.str))(h:Q (.int (xs.countP λy=>y==x:Nat)) σ):SC C X W σ (.val (.builtin "list.count")) [d,.str x] Q:=by
 rintro g A L s _ _ R hA rfl ⟨v,_,rfl,hv,u,_,rfl,⟨t,rfl⟩,rfl⟩
 refine lW (hl.at R hv) λa vs n e3r ho hvs=>?_
 subst e3r
 have hS:=hvs.strsAre
 refine call_meets PySem.F.slot_list_count (a0 _ ho rfl) PySem.F.entry_list_count (PySem.F.args_list_count_2 _ _) (PySem.SeqAt.list_countAt a vs.toArray n none #[] (.str x t) (λy=>jd x y)) ⟨ho,λy hy=>?_,?_⟩
 ·have hy:y∈vs:=by simpa using hy
  refine za (hS.all y hy) λz tz e2r=>?_
  subst e2r
  intro prog w E Q hq
  refine(PySem.strKind prog w).eqBool (a:=z) (b:=x) (iz z tz) (iz x t) ?_
  rw[show decide (z=x)=jd x (.str z tz) from ?_]
  ·exact hq
  ·show decide (z=x)=(z==x)
   by_cases e:z=x
   ·rw[e]; simp
   ·rfl
 ·refine Up.here (d:=.int _) (R.toks _) ⟨_,rfl⟩ ?_
  rw[show vs.toArray.toList.countP (λy=>jd x y)=xs.countP λy=>y==x from hS.count x]; exact h
theorem yH{i:Nat}{ds:List V}{y:V}(hi:σ.get i=some (.list (ds++[y])))(hz:ds.length<=1000000)(h:Q y (σ.set i (.list ds))):SC C X W σ (.val (.builtin "list.pop")) [.ref i] Q:=by
 intro g A L s _ _ R hA rfl hq
 refine bD hq λv J e2r hv e4r=>?_
 subst e2r
 subst e4r
 refine aM hv λa e1r t=>?_
 subst e1r
 obtain⟨b,t',vs,n,ho,hvs⟩:=R.objs i _ hi
 obtain rfl:=R.uniq a b i t t'
 obtain⟨p,q,rfl,hp,hq⟩:∃p q,vs=p++[q]/\d0 g ds p/\VR g y q:=by
  have:∀(ds:List V)(vs:List Value),d0 g (ds++[y]) vs->∃p q,vs=p++[q]/\d0 g ds p/\VR g y q:=by
   intro ds
   induction ds with
   | nil=>rintro vs ⟨v,r,rfl,h,hr⟩; have hr:r=[]:=hr; subst hr; exact bX [] v rfl rfl h
   | cons d ds ih=>
    intro vs hq
    refine bD hq λv r e2r h hr=>?_
    rw[e2r]
    refine bD (ih r hr) λp q e2r h1 h2=>?_
    rw[e2r]
    exact bX (v::p) q rfl ⟨v,p,rfl,h,h1⟩ h2
  exact this ds vs hvs
 have hk:(p++[q]).toArray.size - 1=p.length:=by rw[ao,fy]; rfl
 have hy:(p++[q]).toArray[(p++[q]).toArray.size - 1]?=some q:=by rw[hk]; simp
 refine call_meets PySem.F.slot_list_pop (a0 _ ho rfl) PySem.F.entry_list_pop (PySem.F.args_list_pop_1 _) (PySem.MeetsSeq.list_pop_last a _ n q hy (by rw[ao,fy,<-hp.length,sizeLine_eq]; simp; exact l1 0 1000000 0 16777215 hz rfl)) ⟨ho,?_⟩
 have hg:=PySem.IsL.update (items:=(p++[q]).toArray) (n:=n) ho (λxs=>xs.eraseIdxIfInBounds ((p++[q]).toArray.size - 1))
 have e:(p++[q]).toArray.eraseIdxIfInBounds ((p++[q]).toArray.size - 1)=p.toArray:=by rw[hk,kl_erase,dq]
 rw[e] at hg
 exact⟨y,g,_,dA.refl g,R.upd (o:=.list ds) t (.inl rfl) (λb o hb e=>(ba _ _ (bA hb)).trans e) ⟨_,hg⟩ (rn p _ hg hp),hq,h⟩
theorem B9{C:Cx}{A:Around}{E:Value->Shared->Prop}{s:Shared}{a:Addr}{vs:List Value}{n k:Nat}{ki:Int}{t:Tok}{v:Value}{Q:Unit->Shared->Prop}(ho:s.heap.get? a=some (aR vs n))(hk:k<vs.length)(hz:k<1000000)(hki:ki=(k:Int))
  (hQ:∀h' m,h'.get? a=some (aR (vs.set k v) m)->bC a s.heap h'->Q () { s with heap:=h' }):wpAny C.M A (setItem (.ref a) (.int ki t) v) Q E s:=by
 have hT:s.TypeIs (.ref a) "list":=(a0 _ ho rfl)
 have h0:(0:Int)<=ki:=by simp_all
 have hfit:ki<2 ^ 63:=by rw[hki]; exact zb (cJ hz) rfl
 refine wpAny_holding ?_
 first | refine wpAny_bind (wpAny_pure ?_) | skip
 refine bx (λJ=>wpAny_sequenceKey hT rfl) ?_
 refine wpAny_bind (wpAny_callSpecial?_slot (name:=di "__setitem__") hT slot_list_setitem
  (wpAny_call_entry slot_list_setitem hT entry_list_setitem ?_ (args_list_setitem _ _ _)))
 show wpAny _ _ (Builtin.List.listSubscript? (.int ki t)>>=_) _ _ s
 refine bx (λJ=>wpAny_listSubscript_int (fitsIndex_of h0 hfit)) ?_
 clear hfit
 subst hki
 have hx':vs.toArray[k]?=some vs[k]:=by simp[hk]
 refine bx (λJ q=>wpAny_bind (wpAny_seqItemAt ho rfl (wpAny_pure q))) ?_
 rw[hx']
 show wpAny _ _ (setSeqItemAt a k v>>=_) _ _ s
 have hg:=PySem.IsL.update (items:=vs.toArray) (n:=n) ho (λxs=>xs.setIfInBounds k v)
 have e:vs.toArray.setIfInBounds k v=(vs.set k v).toArray:=by simp
 rw[e] at hg
 refine bx (λJ q=>wpAny_setSeqItemAt ho rfl q) ?_
 first
  | exact wpAny_bind (wpAny_pure (wpAny_pure (a0 .none rfl (wpAny_pure (hQ _ _ hg (aD ..))))))
  | exact wpAny_pure (a0 .none rfl (wpAny_pure (hQ _ _ hg (aD ..))))
theorem d0.set{g:ac}{d:V}{v:Value}(hv:VR g d v){ds:List V}:∀{vs:List Value}{k:Nat},d0 g ds vs->d0 g (ds.set k d) (vs.set k v):=by
 induction ds with
 | nil=>exact @λJ J h=>by cases h; rfl
 | cons _ _ ih=>
  intro vs k z
  refine bD z λu r e h1 h2=>?_
  subst e
  cases k with
  | zero=>exact bX v r rfl hv h2
  | succ k=>exact bX u _ rfl h1 (ih h2)
theorem SU.list{i k:Nat}{ds:List V}{d:V}{QU:aK->Prop}(hi:σ.get i=some (.list ds))(hk:k<ds.length)(hz:ds.length<=1000000)(h:QU (σ.set i (.list (ds.set k d)))):SU C X W σ (.ref i) (.int (k:Int)) d QU:=by
 rintro g A L s ov iv v R hA ⟨a,rfl,t⟩ ⟨tk,rfl⟩ hv
 obtain⟨b,t',vs,n,ho,hvs⟩:=R.objs i _ hi
 obtain rfl:=R.uniq a b i t t'
 have hlen:=hvs.length
 refine B9 (k:=k) ho (by exact aL ‹_› ‹_›) (by exact af ‹_› ‹_›) rfl λh' m hg hs'=>?_
 exact bX g _ (dA.refl g) (R.upd (o:=.list (ds.set k d)) t (.inl rfl) (λb o hb e=>(hs'.2 b hb).trans e) ⟨_,hg⟩ ⟨_,m,hg,hvs.set hv⟩) h
end
section
variable{C:Cx}{X:bc}{W:En}{l:Loc}{σ:aK}{Q:V->aK->Prop}{P:Bool->aK->Prop}
theorem BO{a b c:Expr}{op op':CmpOp}{pos:PySem.Pos}(hm:lastMarks [op,op'] [b,c]=false)
  (h:SE C X W a l σ λx aA=>SE C X W b l aA λy aT=>SV C X W aT [x,y] (jA op) λd ez=>∃t,d=.bool t/\if t=true then SE C X W c l ez λz AL=>SV C X W AL [y,z] (jA op') λd mf=>∃t,d=.bool t/\P t mf else P false ez) :
  ST C X W (.Compare a [op,op'] [b,c] pos) l σ P:=λg A cenv L m s p=>by
 refine isTrue_chain (wpAny_mono (h g A cenv L m s p) ?_ λJ J h=>h) hm
 rintro xv aQ ⟨x,cj,aA,bH,b7,hx,IJ⟩
 have cf:=p.step bH b7
 refine test_link (wpAny_mono (IJ cj A cenv L m aQ cf) ?_ λJ J h=>X.mono bH h)
 rintro yv b8 ⟨y,dR,aT,eN,dM,hy,mh⟩
 have nw:=cf.step eN dM
 refine wpAny_mono (mh.use2 dM nw.A (hx.ext eN.v) hy) ?_ λJ J h=>X.mono (bH.trans eN) h
 rintro dv uW ⟨d,rR,ez,ml,k0,hd,t,rfl,tP⟩
 have nP:=nw.step ml k0
 subst hd
 refine wpAny_truthy_bool ?_
 have e13:=(bH.trans eN).trans ml
 cases t with
 | false=>
  exact⟨rR,ez,e13,k0,tP⟩
 | true=>
  refine test_last (wpAny_mono (tP rR A cenv L m uW nP) ?_ λJ J h=>X.mono e13 h)
  rintro zv Dj ⟨z,BG,AL,Gn,BH,hz,q₄⟩
  have wy:=nP.step Gn BH
  refine wpAny_mono (q₄.use2 BH wy.A (hy.ext (ml.trans Gn).v) hz) ?_ λJ J h=>X.mono (e13.trans Gn) h
  rintro dv yu ⟨d,lD,mf,e₅,uZ,hd,t,rfl,uX⟩
  subst hd
  exact wpAny_truthy_bool ⟨lD,mf,(e13.trans Gn).trans e₅,uZ,uX⟩
theorem SR.gr{g:ac}{sk:List (Str×V)}:∀{kvs:List (Str×Value)},SR g sk kvs->GR g sk kvs:=by
 induction sk with
 | nil=>exact @λJ h=>h
 | cons hd0 _ ih=>
  obtain⟨_,_⟩:=hd0
  intro _ z1
  refine bD z1 λv t e a b=>?_
  exact bX v t e a (ih b)
theorem SE.dictO{ks:List (Option Expr)}{vs:List Expr}{pos:PySem.Pos}(hall:ks.all (·.isSome)=true)(hl:ks.length=vs.length)(h0:ks≠[])(hlen:ks.length<=15)
  (h:KW C X W ks vs l σ λsk aA=>(sk.map (·.1)).Nodup/\Q (.ref aA.nx) (aA.push (dO C.w.params (i3 V.str sk)))):SE C X W (.Dict ks vs pos) l σ Q:=λg A cenv L m s p=>by
 refine wpAny_Dict_walk (knd:=PySem.strKind C.prog C.w) hall hl h0 hlen ?_
 have hDfree:g s.heap.objs.size=.free:=p.R.free_size (ad _)
 have hD0:C.H0.get? s.heap.objs.size=ax:=p.R.h0_size (ad _)
 have hobj:(s.heap.push (bY [] 0)).get? s.heap.objs.size=some (bY [] 0):=ak _ rfl
 have R1:=(p.R.push (bY [] 0)).retag (a:=s.heap.objs.size) (t:=.held (bY [] 0)) (by rw[hDfree]; exact λh=>h) ⟨hobj,hD0⟩
 have x1:dA g (g.put s.heap.objs.size (.held (bY [] 0))):=dA.put hDfree _
 refine wpAny_mono (KW.run (pos:=pos) h (p.step x1 R1)) ?_ λJ J h=>X.mono x1 h
 intro r aQ hq
 refine o35 hq λsk cj aA bH b7 hr hn q=>?_
 refine aM (hr.carries (prog:=C.prog) (w:=C.w)) λkvs hc hs=>?_
 have hD1:cj s.heap.objs.size=.held (bY [] 0):=bH.at (aC ..) (by intro h; cases h)
 have ho1:=b7.held _ _ hD1
 refine lz kvs hc ⟨_,#[],0,ho1,⟨rfl,rfl,rfl⟩,rfl,λe he=>by simp at he,.nil,by simp⟩ (λh' hd hs'=>?_)
 rw[merged_nil_of_nodup kvs (by rw[hs.keys]; exact hn)] at hd
 have R2:=b7.retag (a:=s.heap.objs.size) (t:=.free) (by rw[hD1]; exact λh=>h) trivial
 have xv:dN cj (cj.put s.heap.objs.size .free):=(eG.put (L:=s.heap.objs.size) cj .free).v (by rw[hD1]; exact λh=>h)
 obtain⟨d,rR,ez,ml,k0,hv,tP⟩:=ky (Q:=Q) (tk:=aQ.toks+r.length) (encStr _ _) R2 (aC ..) hD0 (p.R.big (ad _)) hd (hs.ext xv).gr (λb o hb e=>(hs'.2 b hb).trans e) q
 refine⟨d,rR,ez,λc hc=>?_,k0,hv,tP⟩
 have h1:c≠s.heap.objs.size:=λe=>hc (e▸hDfree)
 have h2:(cj.put s.heap.objs.size .free) c=g c:=(a9 _ _ h1).trans ((bH c (by rw[a9 _ _ h1]; exact hc)).trans (a9 _ _ h1))
 exact(ml c (by rw[h2]; exact hc)).trans h2
theorem u6{a:Addr}{vs:List Value}{ss:List Str}{x:Str}{Q:V->aK->Prop}(ha:C.K.lookup a=some (aN vs))(hv:StrsAre vs ss)(hss:∀y∈ss,cE y=true)(hx:cE x=true)(h:Q (.bool (!ss.any λy=>y==x)) σ):SV C X W σ [.str x,.val (.ref a)] (jA .NotIn) Q:=by
 rintro g A L s _ R hA ⟨v,_,rfl,hv',u,_,rfl,rfl,rfl⟩
 obtain⟨t,rfl⟩:=hv'
 have rd:∀{vs:List Value}{ss:List Str},StrsAre vs ss->∃as,ReadsAll s.heap vs (ss.map pF) as:=by
  intro vs ss h
  induction h with
  | nil=>exact⟨_,.nil⟩
  | cons y t _ ih=>obtain⟨as,ra⟩:=ih; exact⟨_,.cons (.str y t) ra⟩
 refine ik (rd hv) λas ra=>?_
 obtain⟨bs,rb⟩:∃bs,Reads s.heap (.ref a) (.tuple (ss.map pF)) bs:=⟨_,.tuple (R.kin _ _ ha) rfl rfl (by exact ra)⟩
 have hcl:c8 (ss.map pF)=true:=by
  clear rd ra rb h hv
  induction ss with
  | nil=>rfl
  | cons y r ih=>
   show(ul (.str y)&&c8 (r.map pF))=true
   rw[ih λz hz=>hss z (.tail _ hz)]
   have:=hss y (.head _)
   show(cE y&&true)=true
   rw[this]; rfl
 have hsh:shaped (.str x)=true:=by
  show(ul (.str x)&&decide (PyData.depth (.str x)<=64))=true
  have:ul (.str x)=true:=hx
  rw[this]; rfl
 refine PySem.SeqAt.notIn_tuple_reads rb (Reads.str x t) hcl (canLay_of_shaped hsh) (pr hsh (fL hA.units rfl)) ?_
 have e:(ss.map pF).any (λy=>dT y (.str x))=ss.any λy=>y==x:=by rw[j5]; rfl
 rw[e]
 exact Up.here (d:=.bool _) R rfl h
end
section
variable{C:Cx}{X:bc}{W:En}{l:Loc}{σ:aK}{Q:V->aK->Prop}
theorem SE.rev{v:Expr} {kd p1 p2 sp pos}(h:SE C X W v l σ λd aA=>∃ds,IsL aA d ds/\ds.length<=1000000/\Q (.ref aA.nx) (aA.push (.list ds.reverse))):SE C X W (.Subscript v (.Slice ax ax (some (.UnaryOp .USub (.Constant (.int 1) kd p1) p2)) sp) pos) l σ Q:=λg A cenv L m s p=>by
 refine Subscript_ (wpAny_mono (h g A cenv L m s p) ?_ λJ J h=>h)
 rintro ov aQ ⟨o,cj,aA,bH,b7,ho,ds,hl,hz,q⟩
 have cf:=p.step bH b7
 show wpAny C.M A (do
  let l <-valueOrNone (evalOpt ax cenv)
  let u <-holding [l] (valueOrNone (evalOpt ax cenv))
  let s <-holding [l,u] (valueOrNone (evalOpt (some (.UnaryOp .USub (.Constant (.int 1) kd p1) p2)) cenv))
  newFields "slice" [l,u,s]) _ _ _
 have none_:∀{Q':Value->Shared->Prop}{E':Value->Shared->Prop}{s':Shared},Q' .none s'->wpAny C.M A (valueOrNone (evalOpt ax cenv)) Q' E' s':=λhq=>wpAny_pure hq
 refine wpAny_bind (none_ ?_)
 refine wpAny_bind (wpAny_holding (none_ ?_))
 have step:pD C X W (some (.UnaryOp .USub (.Constant (.int 1) kd p1) p2)) l aA λk σ'=>k=some (-1)/\σ'=aA:=SE.un (SE.int (ur (lz (-1) rfl rfl rfl)))
 refine wpAny_bind (wpAny_holding (wpAny_mono (pD.use cf step) ?_ λJ J h=>X.mono bH h))
 intro vs b8 hq
 refine o35 hq λk dR aT eN dM hk e6r e7r=>?_
 subst e6r
 subst e7r
 have R3:=dM.push { cls:=.type "slice",data:=.fields #[.none,.none,vs] }
 refine lW (hl.at R3 (ho.ext eN.v)) λb us n e3r e r=>?_
 subst e3r
 obtain⟨ops,eo⟩:=i6 (.Slice ax ax (some (.UnaryOp .USub (.Constant (.int 1) kd p1) p2)) sp) (.ref b) (.ref b8.heap.objs.size)
 refine wpAny_newObj_type ?_ (by first | size_fits | decide | rfl)
 refine wpAny_mono (tail_any (Q:=Up C dR Q) (a0 _ e rfl) slot_list_getitem.lookup (wpAny_getItem_list_slice (du e) (l9 _ _ _ _) .none .none hk (by decide) ?_ (by rw[ao,<-r.length,sizeLine_eq]; exact l1 0 1000000 0 16777216 hz rfl)) eo) (λJ J h=>Up.back (bH.trans eN) h) λJ J h=>X.mono (bH.trans eN) h
 rw[krv_pick]
 exact jI (tk:=b8.toks) R3 (d0.reverse r) (R3.free_size (ad _)) (R3.h0_size (ad _)) (λb o J e=>ab _ e) (ak _ rfl) q
end
inductive Pos where
 | h
 | o (p:Pos)
 | i (p:Pos)
set_option genInjectivity true in
inductive TV where
 | unset
 | none
 | bool (b:Bool)
 | nat (n:Nat)
 | neg (n:Nat)
 | str (k:Nat)
 | tup (ds:TV)
 | ref (p:Pos)
 | val (k:Nat)
 | rng (n:Nat)
 | nil
 | cons (a b:TV)
inductive TO where
 | list (ds:TV)
 | dict (c:Nat)(kvs:TV)
 | inst (c:Nat)(fs:TV)
 | cell (v:TV)
 | hand (t:TV)
inductive Tr where
 | e
 | n (o:Option TO)(l r:Tr)
inductive St where
 | mk (nx:Pos)(t:Tr)
noncomputable def Pos.num:Pos->Nat
 | .h=>1
 | .o p=>2*p.num
 | .i p=>2*p.num+1
noncomputable def Pos.up(p:Pos):Pos:=Pos.rec (motive:=λJ=>Pos) (.o .h) (λp J=>.i p) (λJ ih=>.o ih) p
theorem Pos.num_up:∀p:Pos,p.up.num=p.num+1
 | .h=>rfl
 | .o _=>rfl
 | .i p=>by show 2*p.up.num=2*p.num+1+1; rw[Pos.num_up p]; rfl
theorem Pos.num_pos:∀p:Pos,0<p.num
 | .h=>by decide
 | .o p=>Nat.mul_pos jv p.num_pos
 | .i p=>cH _
noncomputable def Tr.get(p:Pos):Tr->Option TO:=
 Pos.rec (motive:=λJ=>Tr->Option TO) (λt=>Tr.rec (motive:=λJ=>Option TO) .none (λo J J J J=>o) t)
  (λJ ih t=>Tr.rec (motive:=λJ=>Option TO) .none (λJ l J J J=>ih l) t)
  (λJ ih t=>Tr.rec (motive:=λJ=>Option TO) .none (λJ J r J J=>ih r) t) p
noncomputable def Tr.set(x:TO)(p:Pos):Tr->Tr:=
 Pos.rec (motive:=λJ=>Tr->Tr) (λt=>Tr.rec (motive:=λJ=>Tr) (.n (some x) .e .e) (λJ l r J J=>.n (some x) l r) t)
  (λJ ih t=>Tr.rec (motive:=λJ=>Tr) (.n .none (ih .e) .e) (λo l r J J=>.n o (ih l) r) t)
  (λJ ih t=>Tr.rec (motive:=λJ=>Tr) (.n .none .e (ih .e)) (λo l r J J=>.n o l (ih r)) t) p
theorem iT:∀p:Pos,Tr.get p .e=.none
 | .h=>rfl
 | .o _=>rfl
 | .i _=>rfl
theorem fj(x:TO):∀(p:Pos)(t:Tr),Tr.get p (Tr.set x p t)=some x
 | .h,.e=>rfl
 | .h,.n _ _ _=>rfl
 | .o p,.e=>fj x p .e
 | .o p,.n _ l _=>fj x p l
 | .i p,.e=>fj x p .e
 | .i p,.n _ _ r=>fj x p r
theorem gf(x:TO):∀(p q:Pos)(t:Tr),q≠p->Tr.get q (Tr.set x p t)=Tr.get q t
 | .h,.h,_,h=>absurd rfl h
 | .h,.o q,.e,_=>iT q
 | .h,.i q,.e,_=>iT q
 | .h,.o _,.n _ _ _,_=>rfl
 | .h,.i _,.n _ _ _,_=>rfl
 | .o _,.h,.e,_=>rfl
 | .o _,.h,.n _ _ _,_=>rfl
 | .i _,.h,.e,_=>rfl
 | .i _,.h,.n _ _ _,_=>rfl
 | .o p,.o q,.e,h=>(gf x p q .e λe=>h (e▸rfl)).trans (iT q)
 | .o p,.o q,.n _ l _,h=>gf x p q l λe=>h (e▸rfl)
 | .i p,.i q,.e,h=>(gf x p q .e λe=>h (e▸rfl)).trans (iT q)
 | .i p,.i q,.n _ _ r,h=>gf x p q r λe=>h (e▸rfl)
 | .o _,.i q,.e,_=>iT q
 | .o _,.i _,.n _ _ _,_=>rfl
 | .i _,.o q,.e,_=>iT q
 | .i _,.o _,.n _ _ _,_=>rfl
structure b6 where
 str:Nat->Str
 val:Nat->V
 flds:Nat->List Str
 P:Params
 hand:TV->O
mutual
noncomputable def TV.den(G:b6):TV->V
 | .bool b=>.bool b
 | .nat n=>.int n
 | .neg n=>.int (ce n)
 | .str k=>.str (G.str k)
 | .tup ds=>.tup (TV.dens G ds)
 | .ref p=>.ref p.num
 | .val k=>G.val k
 | .rng n=>.rng 0 n
 | .unset=>.none
 | .none=>.none
 | .nil=>.none
 | .cons _ _=>.none
noncomputable def TV.dens(G:b6):TV->List V
 | .cons a b=>TV.den G a::TV.dens G b
 | _=>[]
end
noncomputable def mN(G:b6):TV->Str
 | .str k=>G.str k
 | _=>G.str 0
noncomputable def EH:TV->Int
 | .nat n=>n
 | .neg n=>ce n
 | _=>0
noncomputable def TV.kd(G:b6):TV->Bool->Nat->KD
 | .nat n,false,_=>.i n
 | .neg n,false,_=>.i (ce n)
 | .str k,false,_=>.s (G.str k)
 | .tup ds,false,d+1=>TV.kd G ds true d
 | .cons a b,true,d=>.cons (TV.kd G a false d) (TV.kd G b true d)
 | _,_,_=>.nil
noncomputable def ud(G:b6):TV->KD
 | .tup ds=>TV.kd G ds true 4
 | _=>.nil
noncomputable def TV.sk{K:Type}(G:b6)(key:TV->K):TV->List (K×V)
 | .cons (.cons k v) r=>(key k,v.den G)::TV.sk G key r
 | _=>[]
noncomputable def t0(G:b6):Nat->TV->List (V×V)
 | 0,r=>i3 V.str (r.sk G (mN G))
 | 1,r=>i3 V.int (r.sk G EH)
 | _,r=>i3 kv (r.sk G (ud G))
noncomputable def TV.deno(G:b6):TV->Option V
 | .unset=>ax
 | v=>some (v.den G)
noncomputable def TO.den(G:b6):TO->O
 | .list ds=>.list (ds.dens G)
 | .dict c r=>dO G.P (t0 G c r)
 | .inst c fs=>.inst c ((G.flds c).zip (fs.dens G))
 | .cell v=>.cell (v.deno G)
 | .hand t=>G.hand t
noncomputable def nW:Nat->Nat->Pos
 | 0,_=>.h
 | f+1,n=>if n<=1 then .h else if n % 2=0 then .o (nW f (n / 2)) else .i (nW f (n / 2))
theorem nV:∀(p:Pos)(f:Nat),p.num<=f->nW f p.num=p
 | p,0,h=>by have:=p.num_pos; simp_all
 | .h,f+1,_=>rfl
 | .o p,f+1,h=>by
  have:=p.num_pos
  have h:2*p.num<=f+1:=h
  show(if 2*p.num<=1 then _ else if 2*p.num % 2=0 then _ else _)=_
  rw[if_neg (bv (j4 2 this)),if_pos (by simp)]
  show(nW f (2*p.num / 2)).o=_
  rw[show 2*p.num / 2=p.num by simp,nV p f (fF (Z (au this p.num) (Z (am (Da _).symm) h)))]
 | .i p,f+1,h=>by
  have:=p.num_pos
  have h:2*p.num+1<=f+1:=h
  show(if 2*p.num+1<=1 then _ else if (2*p.num+1) % 2=0 then _ else _)=_
  rw[if_neg (bv (IC (Nat.mul_pos jv this))),if_neg (by simp)]
  show(nW f ((2*p.num+1) / 2)).i=_
  rw[show(2*p.num+1) / 2=p.num from Nat.mul_add_div jv p.num 1,nV p f (Z (Nat.le_mul_of_pos_left _ jv) (fF h))]
theorem nX:∀(f n:Nat),n<=f->0<n->(nW f n).num=n
 | 0,n,h,h'=>by simp_all
 | f+1,n,h,h'=>by
  show(if n<=1 then Pos.h else if n % 2=0 then Pos.o _ else Pos.i _).num=n
  by_cases q:n<=1
  ·rw[if_pos q]; exact ck h' q
  ·rw[if_neg q]
   have hp:0<n / 2:=Nat.div_pos (dJ q) jv
   have hl:n / 2<=f:=av (af (Nat.div_lt_self h' (bU 1)) h)
   by_cases q2:n % 2=0
   ·rw[if_pos q2]; show 2*_=n; rw[nX f (n / 2) hl hp]; exact Nat.mul_div_cancel' (Nat.dvd_of_mod_eq_zero q2)
   ·rw[if_neg q2]; show 2*_+1=n; rw[nX f (n / 2) hl hp]; exact(congrArg _ ((Nat.mod_two_eq_zero_or_one n).resolve_left q2).symm).trans (Nat.div_add_mod n 2)
noncomputable def Ef(n:Nat):Pos:=nW n n
theorem Cf(p:Pos):Ef p.num=p:=nV p _ (ad _)
theorem Ci{n:Nat}(h:0<n):(Ef n).num=n:=nX n n (ad _) h
noncomputable def Tr.sto(G:b6)(t:Tr)(i:Nat):Option O:=if i=0 then ax else(Tr.get (Ef i) t).map (TO.den G)
noncomputable def St.den(G:b6):St->aK
 | .mk nx t=>⟨nx.num,t.sto G⟩
theorem rS(G:b6)(t:Tr)(p:Pos):t.sto G p.num=(Tr.get p t).map (TO.den G):=by
 unfold Tr.sto; rw[if_neg (bP p.num_pos),Cf]
theorem lE(G:b6)(t:Tr)(p:Pos)(x:TO):(Tr.set x p t).sto G=λj=>if j=p.num then some (x.den G) else t.sto G j:=by
 funext j
 by_cases h:j=p.num
 ·subst h; rw[rS,fj,if_pos rfl]; rfl
 ·rw[if_neg h]
  unfold Tr.sto
  by_cases h0:j=0
  ·rw[if_pos h0,if_pos h0]
  ·rw[if_neg h0,if_neg h0,gf]
   intro e; exact h (e▸(Ci (qR h0)).symm)
noncomputable def St.push(x:TO)(s:St)(k:Pos->St->Bool):Bool:=St.rec (motive:=λJ=>Bool) (λnx t=>k nx (.mk nx.up (Tr.set x nx t))) s
theorem cy(G:b6){x:TO}{s:St}{k:Pos->St->Bool}(h:s.push x k=true):∃p s',p.num=(s.den G).nx/\s'.den G=(s.den G).push (x.den G)/\k p s'=true:=by
 obtain⟨nx,t⟩:=s
 refine bX nx (.mk nx.up (Tr.set x nx t)) rfl ?_ h
 show aK.mk nx.up.num ((Tr.set x nx t).sto G)=aK.mk (nx.num+1) _
 rw[nx.num_up,lE]; rfl
noncomputable def St.put(x:TO)(p:Pos)(s:St):St:=St.rec (motive:=λJ=>St) (λnx t=>.mk nx (Tr.set x p t)) s
theorem dr(G:b6)(x:TO)(p:Pos)(s:St):(s.put x p).den G=(s.den G).set p.num (x.den G):=by
 obtain⟨nx,t⟩:=s
 show aK.mk nx.num ((Tr.set x p t).sto G)=_
 rw[lE]; rfl
noncomputable def St.at(p:Pos)(s:St)(k:TO->Bool):Bool:=St.rec (motive:=λJ=>Bool) (λJ t=>Option.rec (motive:=λJ=>Bool) false k (Tr.get p t)) s
theorem d8(G:b6){p:Pos}{s:St}{k:TO->Bool}(h:s.at p k=true):∃o,(s.den G).get p.num=some (o.den G)/\k o=true:=by
 obtain⟨nx,t⟩:=s
 have h:Option.rec (motive:=λJ=>Bool) false k (Tr.get p t)=true:=h
 show ∃o,t.sto G p.num=_/\_
 rw[rS]
 cases e:Tr.get p t with
 | none=>rw[e] at h; exact nt h
 | some o=>rw[e] at h; exact a0 o rfl h
noncomputable abbrev KT:=TV->St->Bool
noncomputable abbrev RE:=TV->St->KT->Bool
noncomputable def o9(k:Nat):TV->(TV->Bool)->Bool:=
 Nat.rec (motive:=λJ=>TV->(TV->Bool)->Bool)
  (λl c=>TV.rec (motive:=λJ=>Bool) false false (λJ=>false) (λJ=>false) (λJ=>false) (λJ=>false) (λJ J=>false) (λJ=>false) (λJ=>false) (λJ=>false) false (λv J J J=>c v) l)
  (λJ ih l c=>TV.rec (motive:=λJ=>Bool) false false (λJ=>false) (λJ=>false) (λJ=>false) (λJ=>false) (λJ J=>false) (λJ=>false) (λJ=>false) (λJ=>false) false (λJ r J J=>ih r c) l) k
theorem ng{k:Nat}{l:TV}{c:TV->Bool}(h:o9 k l c=true):∃a r,l=.cons a r:=by
 cases k<;>cases l<;>first | exact nt h | exact⟨_,_,rfl⟩
theorem rD(G:b6):∀{k:Nat}{l:TV}{c:TV->Bool},o9 k l c=true->∃v,(l.dens G)[k]?=some (v.den G)/\c v=true:=by
 intro k
 induction k with
 | zero=>
  intro l c h
  refine za (ng h) λa r e=>?_
  subst e
  exact a0 a rfl h
 | succ k ih=>
  intro l c h
  refine za (ng h) λa r e=>?_
  subst e
  exact ih (l:=r) h
def bN(G:b6)(W:En)(l:Loc):List (Str×Bool)->TV->Prop
 | [],_=>True
 | (x,false)::ns,.cons v r=>l x=v.deno G/\bN G W l ns r
 | (x,true)::ns,.cons v r=>(∃p,v=.ref p/\W.cells.lookup x=some p.num)/\bN G W l ns r
 | _::_,_=>False
theorem bN.isCons{G:b6}{W:En}{l:Loc}{p:Str×Bool}{ns:List (Str×Bool)}{v:TV}(e:bN G W l (p::ns) v):∃a r,v=.cons a r:=by
 obtain⟨x,b⟩:=p
 cases b<;>cases v<;>first | exact e.elim | exact⟨_,_,rfl⟩
theorem o8{G:b6}{W:En}{l:Loc}{x:Str}{b:Bool}:∀{k:Nat}{ns:List (Str×Bool)}{env:TV}{c:TV->Bool},bN G W l ns env->ns[k]?=some (x,b)->o9 k env c=true->
  ∃v,(if b=true then ∃p,v=.ref p/\W.cells.lookup x=some p.num else l x=v.deno G)/\c v=true:=by
 intro k ns
 induction ns generalizing k with
 | nil=>exact @λJ J J hn=>by cases hn
 | cons p ns ih=>
  intro env c e hn h
  refine za e.isCons λa r e'=>?_
  subst e'
  cases k with
  | zero=>
   cases aw hn
   cases b<;>exact a0 a e.1 h
  | succ k=>
   obtain⟨y,q⟩:=p
   cases q<;>exact ih e.2 hn h
def Tells(G:b6)(k:KT)(d:V)(σ:aK):Prop:=∃v s,d=v.den G/\σ=s.den G/\k v s=true
def ME(C:Cx)(G:b6)(sc:Scope)(n:Nat)(ns:List (Str×Bool))(e:Expr)(r:RE):Prop:=
 ∀(W:En)(l:Loc)(env:TV)(s:St)(k:KT),W.sc=sc->W.calm=true->n<=W.d->bN G W l ns env->r env s k=true->SE C .none W e l (s.den G) (Tells G k)
section
variable{C:Cx}{G:b6}{sc:Scope}{n:Nat}{ns:List (Str×Bool)}
theorem ME.go{e:Expr}{r:RE}{W:En}{l:Loc}{env:TV}{s:St}{k:KT}{Q:V->aK->Prop}(h:ME C G sc n ns e r)(h1:W.sc=sc)(h2:W.calm=true)(h3:n<=W.d)(h4:bN G W l ns env)(hr:r env s k=true)(f:∀v s',k v s'=true->Q (v.den G) (s'.den G)):SE C .none W e l (s.den G) Q:=
 SE.mono (h W l env s k h1 h2 h3 h4 hr) λJ J q=>by
  refine bD q λv s' e1 e2 q=>?_
  rw[e1,e2]; exact f v s' q
noncomputable def rK(v:TV):RE:=λJ s k=>k v s
theorem ME.int{i:Nat} {kd pos}:ME C G sc n ns (.Constant (.int i) kd pos) (rK (.nat i)):=λJ J J s J J J J J h=>SE.int (bX (.nat i) s rfl rfl h)
theorem ME.none{kd pos}:ME C G sc n ns (.Constant .none kd pos) (rK .none):=λJ J J s J J J J J h=>SE.none (bX .none s rfl rfl h)
theorem ME.bool{b kd pos}:ME C G sc n ns (.Constant (.bool b) kd pos) (rK (.bool b)):=λJ J J s J J J J J h=>SE.bool (bX (.bool b) s rfl rfl h)
theorem ME.str{x:Str}{j:Nat} {kd pos}(hx:G.str j=x):ME C G sc n ns (.Constant (.str x) kd pos) (rK (.str j)):=λJ J J s J J J J J h=>SE.str (bX (.str j) s (by rw[<-hx]; rfl) rfl h)
noncomputable def q6(v:TV)(b:Bool):Bool:=
 TV.rec (motive:=λJ=>Bool) false b (λJ=>b) (λJ=>b) (λJ=>b) (λJ=>b) (λJ J=>b) (λJ=>b) (λJ=>b) (λJ=>b) b (λJ J J J=>b) v
theorem j9{v:TV}{b:Bool}(h:q6 v b=true):v.deno G=some (v.den G)/\b=true:=by
 cases v<;>first | exact⟨rfl,h⟩ | exact nt h
noncomputable def ae(i:Nat):RE:=λenv s k=>o9 i env λv=>q6 v (k v s)
theorem ME.loc{i:Nat}{x:Str} {pos}(hn:ns[i]?=some (x,false))(hk:sc.names.lookup x=some .local)(hd:(x==("__debug__":Str))=false):ME C G sc n ns (.Name x pos) (ae i):=λW l env s k hs J J e h=>by
 refine aM (o8 e hn h) λv hv h=>?_
 refine eV (j9 (G:=G) h) λh1 h2=>?_
 exact SE.local ((hs)▸hk) (hv.trans h1) hd (bX v s rfl rfl h2)
noncomputable def az(i:Nat):RE:=λenv s k=>o9 i env λv=>
 TV.rec (motive:=λJ=>Bool) false false (λJ=>false) (λJ=>false) (λJ=>false) (λJ=>false) (λJ J=>false)
  (λp=>s.at p λo=>TO.rec (motive:=λJ=>Bool) (λJ=>false) (λJ J=>false) (λJ J=>false) (λv=>q6 v (k v s)) (λJ=>false) o) (λJ=>false) (λJ=>false) false (λJ J J J=>false) v
theorem ME.cell{i:Nat}{x:Str} {pos}(hn:ns[i]?=some (x,true))(hk:sc.names.lookup x=some .cell∨sc.names.lookup x=some .free)(hd:(x==("__debug__":Str))=false)(hd':(x==("__classdict__":Str))=false):ME C G sc n ns (.Name x pos) (az i):=λW l env s k hs J J e h=>by
 refine aM (o8 e hn h) λv hv h=>?_
 refine aM hv λp e1r hc=>?_
 subst e1r
 refine aM (d8 G (k:=λo=>TO.rec (motive:=λJ=>Bool) (λJ=>false) (λJ J=>false) (λJ J=>false) (λv=>q6 v (k v s)) (λJ=>false) o) h) λo ho h=>?_
 cases o with
 | cell v=>
  refine eV (j9 (G:=G) (b:=k v s) h) λh1 h2=>?_
  exact SE.cell ((hs)▸hk) hc (by rw[ho]; show some (O.cell (v.deno G))=_; rw[h1]) hd hd' (bX v s rfl rfl h2)
 | list _=>exact nt h
 | dict _ _=>exact nt h
 | hand _=>exact nt h
 | inst _ _=>exact nt h
def ML(C:Cx)(G:b6)(sc:Scope)(n:Nat)(ns:List (Str×Bool))(es:List Expr)(r:RE):Prop:=
 ∀(W:En)(l:Loc)(env:TV)(s:St)(k:KT),W.sc=sc->W.calm=true->n<=W.d->bN G W l ns env->r env s k=true->
  SL C .none W es l (s.den G) λds σ=>∃v s',ds=v.dens G/\ds.length=es.length/\σ=s'.den G/\k v s'=true
theorem SL.mono{X:bc}{W:En}{l:Loc}{σ:aK}{es:List Expr}{Q Q':List V->aK->Prop}(h:SL C X W es l σ Q)(k:∀d σ',Q d σ'->Q' d σ'):SL C X W es l σ Q':=
 λpos g A cenv L m s p=>wpAny_mono (h pos g A cenv L m s p) (λJ J ⟨d,g',σ',x,R,v,q⟩=>⟨d,g',σ',x,R,v,k _ _ q⟩) λJ J h=>h
theorem ML.go{es:List Expr}{r:RE}{W:En}{l:Loc}{env:TV}{s:St}{k:KT}{Q:List V->aK->Prop}(h:ML C G sc n ns es r)(h1:W.sc=sc)(h2:W.calm=true)(h3:n<=W.d)(h4:bN G W l ns env)(hr:r env s k=true)(f:∀v s',(v.dens G).length=es.length->k v s'=true->Q (v.dens G) (s'.den G)):SL C .none W es l (s.den G) Q:=
 SL.mono (h W l env s k h1 h2 h3 h4 hr) λJ J q=>by
  refine J4 q λv s' e1 e2 e3 q=>?_
  rw[e3]; rw[e1] at e2 ⊢; exact f v s' e2 q
noncomputable def aq:RE:=λJ s k=>k .nil s
noncomputable def aa(a b:RE):RE:=λenv s k=>a env s λv s=>b env s λr s=>k (.cons v r) s
theorem ML.nil:ML C G sc n ns [] aq:=λJ J J s J J J J J h=>SL.nil (Im .nil s rfl rfl rfl h)
theorem ML.cons{e:Expr}{es:List Expr}{a b:RE}(ha:ME C G sc n ns e a)(hb:ML C G sc n ns es b)(hs:dW e=true):ML C G sc n ns (e::es) (aa a b):=λW l env s k h1 h2 h3 h4 h=>
 SL.cons hs (ha.go h1 h2 h3 h4 h λv J q=>hb.go h1 h2 h3 h4 q λr s'' e q=>(Im (.cons v r) s'' rfl (congrArg bf e) rfl q))
noncomputable def dY(r:RE):RE:=λenv s k=>r env s λv s=>k (.tup v) s
theorem ME.tup{es:List Expr} {kd pos}{r:RE}(h:ML C G sc n ns es r)(hz:(es.length.ble 1000)=true):ME C G sc n ns (.Tuple es kd pos) (dY r):=λW l env s k h1 h2 h3 h4 hr=>
 SE.tuple (h.go h1 h2 h3 h4 hr λv s' e q=>⟨by rw[e]; exact Z (N hz) (by simp),.tup v,s',rfl,rfl,q⟩)
noncomputable def cP(r:RE):RE:=λenv s k=>r env s λv s=>s.push (.list v) λp s=>k (.ref p) s
theorem ME.list{es:List Expr} {pos}{r:RE}(h:ML C G sc n ns es r)(hz:(es.length.ble 1000)=true):ME C G sc n ns (.List es pos) (cP r):=λW l env s k h1 h2 h3 h4 hr=>
 SE.list (h.go h1 h2 h3 h4 hr λv s' e q=>by
  refine bD (cy G q) λp s'' f1 f2 q=>?_
  exact⟨by rw[e]; exact Z (N hz) (by simp),.ref p,s'',by rw[<-f1]; rfl,f2.symm,q⟩)
end
structure cM(G:b6):Prop where
 ok:∀k,cE (G.str k)=true
 inj:∀i j,G.str i=G.str j->i=j
 lt:∀i j,i<j->(G.str i).cps.toList<(G.str j).cps.toList
noncomputable def cL(v:TV):Bool->Nat->Bool:=
 TV.rec (motive:=λJ=>Bool->Nat->Bool) (λJ J=>false) (λJ J=>false) (λJ J J=>false)
  (λJ r J=>Bool.rec true false r) (λJ r J=>Bool.rec true false r) (λJ r J=>Bool.rec true false r)
  (λJ ih r d=>Bool.rec (Nat.rec false (λd J=>ih true d) d) false r)
  (λJ J J=>false) (λJ J J=>false) (λJ J J=>false)
  (λr J=>r)
  (λJ J iha ihb r d=>Bool.rec false (Bool.rec false (ihb true d) (iha false d)) r) v
theorem y3{x y:Bool}(h:Bool.rec (motive:=λJ=>Bool) false x y=true):y=true/\x=true:=by
 cases y with
 | false=>exact nt h
 | true=>exact⟨rfl,h⟩
theorem JS(x y:Bool):(x&&y)=Bool.rec (motive:=λJ=>Bool) false y x:=by cases x<;>rfl
theorem dK{v:TV}{d:Nat}(h:cL v false d=true):(∃n,v=.nat n)∨(∃n,v=.neg n)∨(∃n,v=.str n)∨∃ds e,v=.tup ds/\d=e+1/\cL ds true e=true:=by
 cases v<;>first | exact nt h | exact .inl ⟨_,rfl⟩ | exact .inr (.inl ⟨_,rfl⟩) | exact .inr (.inr (.inl ⟨_,rfl⟩)) | (cases d<;>first | exact nt h | exact .inr (.inr (.inr ⟨_,_,rfl,rfl,h⟩)))
theorem dL{v:TV}{d:Nat}(h:cL v true d=true):v=.nil∨∃a b,v=.cons a b/\cL a false d=true/\cL b true d=true:=by
 cases v<;>first | exact nt h | exact .inl rfl | exact .inr ⟨_,_,rfl,y3 h⟩
theorem iY{G:b6}(o:cM G)(v:TV)(d:Nat):(cL v false d=true->n7 (v.den G)=true/\(pd (v.den G)).canLay0=true/\(pd (v.den G)).depth<=d)/\
  (cL v true d=true->hU (v.dens G)=true/\c8 (tH (v.dens G))=true/\tF (tH (v.dens G))<=d):=by
 induction v generalizing d with
 | nat _=>exact⟨λJ=>⟨rfl,rfl,aH _⟩,λh=>nt h⟩
 | neg _=>exact⟨λJ=>⟨rfl,rfl,aH _⟩,λh=>nt h⟩
 | str k=>exact⟨λJ=>⟨o.ok k,o.ok k,aH _⟩,λh=>nt h⟩
 | tup ds ih=>exact⟨λh=>by
   cases d with
   | zero=>exact nt h
   | succ d=>exact sE ((ih d).2 h) λa b c=>⟨a,b,cq c⟩,λh=>nt h⟩
 | nil=>exact⟨λh=>nt h,λJ=>⟨rfl,rfl,aH _⟩⟩
 | cons a b iha ihb=>exact⟨λh=>nt h,λh=>sE ((iha d).1 (y3 h).1) λa1 a2 a3=>sE ((ihb d).2 (y3 h).2) λb1 b2 b3=>⟨congr (congrArg and a1) b1,congr (congrArg and a2) b2,Gb.mpr ⟨a3,b3⟩⟩⟩
 | _=>exact⟨λh=>nt h,λh=>nt h⟩
noncomputable def rr(v:TV):TV->Bool:=
 TV.rec (motive:=λJ=>TV->Bool) (λJ=>false) (λJ=>false) (λJ J=>false)
  (λn w=>TV.rec (motive:=λJ=>Bool) false false (λJ=>false) (λm=>bn n m) (λJ=>false) (λJ=>false) (λJ J=>false) (λJ=>false) (λJ=>false) (λJ=>false) false (λJ J J J=>false) w)
  (λn w=>TV.rec (motive:=λJ=>Bool) false false (λJ=>false) (λJ=>false) (λm=>bn n m) (λJ=>false) (λJ J=>false) (λJ=>false) (λJ=>false) (λJ=>false) false (λJ J J J=>false) w)
  (λn w=>TV.rec (motive:=λJ=>Bool) false false (λJ=>false) (λJ=>false) (λJ=>false) (λm=>bn n m) (λJ J=>false) (λJ=>false) (λJ=>false) (λJ=>false) false (λJ J J J=>false) w)
  (λJ ih w=>TV.rec (motive:=λJ=>Bool) false false (λJ=>false) (λJ=>false) (λJ=>false) (λJ=>false) (λes J=>ih es) (λJ=>false) (λJ=>false) (λJ=>false) false (λJ J J J=>false) w)
  (λJ J=>false) (λJ J=>false) (λJ J=>false)
  (λw=>TV.rec (motive:=λJ=>Bool) false false (λJ=>false) (λJ=>false) (λJ=>false) (λJ=>false) (λJ J=>false) (λJ=>false) (λJ=>false) (λJ=>false) true (λJ J J J=>false) w)
  (λJ J iha ihb w=>TV.rec (motive:=λJ=>Bool) false false (λJ=>false) (λJ=>false) (λJ=>false) (λJ=>false) (λJ J=>false) (λJ=>false) (λJ=>false) (λJ=>false) false (λx y J J=>Bool.rec false (ihb y) (iha x)) w) v
theorem rL(i j:Int)(b:Bool)(h:i=j↔b=true):(i==j)=b:=by
 cases b with
 | true=>simpa using h
 | false=>simpa using h
theorem sg{G:b6}(o:cM G)(i j:Nat):(G.str i==G.str j)=bn i j:=by
 by_cases h:i=j
 ·subst h; rw[beq_self_eq_true]; exact(iR i).symm
 ·rw[beq_eq_false_iff_ne.mpr λe=>h (o.inj i j e)]
  exact(iG.mpr λe=>h (bk e)).symm
theorem wg{G:b6}(o:cM G)(v w:TV)(d d':Nat):(cL v false d=true->cL w false d'=true->dT (pd (v.den G)) (pd (w.den G))=rr v w)/\
  (cL v true d=true->cL w true d'=true->wk (tH (v.dens G)) (tH (w.dens G))=rr v w):=by
 induction v generalizing w d d' with
 | nat n=>exact⟨λJ h=>by
   rcases dK h with ⟨m,rfl⟩ | ⟨m,rfl⟩ | ⟨m,rfl⟩ | ⟨_,_,rfl,_,_⟩
   ·exact rL _ _ _ ⟨λh=>by rw[nC h]; exact iR m,λh=>by rw[bk h]⟩
   ·exact rL _ _ _ ⟨nofun,λh=>nt h⟩
   ·rfl
   ·rfl,λh=>nt h⟩
 | neg n=>exact⟨λJ h=>by
   rcases dK h with ⟨m,rfl⟩ | ⟨m,rfl⟩ | ⟨m,rfl⟩ | ⟨_,_,rfl,_,_⟩
   ·exact rL _ _ _ ⟨nofun,λh=>nt h⟩
   ·exact rL _ _ _ ⟨λh=>by rw[pL h]; exact iR m,λh=>by rw[bk h]⟩
   ·rfl
   ·rfl,λh=>nt h⟩
 | str n=>exact⟨λJ h=>by
   rcases dK h with ⟨m,rfl⟩ | ⟨m,rfl⟩ | ⟨m,rfl⟩ | ⟨_,_,rfl,_,_⟩
   ·rfl
   ·rfl
   ·exact sg o n m
   ·rfl,λh=>nt h⟩
 | tup ds ih=>exact⟨λh h'=>by
   rcases dK h' with ⟨m,rfl⟩ | ⟨m,rfl⟩ | ⟨m,rfl⟩ | ⟨es,k',rfl,_,q⟩
   ·rfl
   ·rfl
   ·rfl
   ·cases d with
    | zero=>exact nt h
    | succ k=>exact(ih es k k').2 h q,λh=>nt h⟩
 | nil=>exact⟨λh=>nt h,λJ h=>by rcases dL h with rfl | ⟨_,_,rfl,_⟩<;>rfl⟩
 | cons a b iha ihb=>exact⟨λh=>nt h,λh h'=>by
   rcases dL h' with rfl | ⟨x,y,rfl,k1,k2⟩
   ·rfl
   ·have e1:=(iha x d d').1 (y3 h).1 k1
    exact(congr (congrArg and e1) ((ihb y d d').2 (y3 h).2 k2)).trans (JS _ _)⟩
 | _=>exact⟨λh=>nt h,λh=>nt h⟩
noncomputable abbrev RT:=TV->St->(Bool->St->Bool)->Bool
def AA(G:b6)(k:Bool->St->Bool)(b:Bool)(σ:aK):Prop:=∃s,σ=s.den G/\k b s=true
def MT(C:Cx)(G:b6)(sc:Scope)(n:Nat)(ns:List (Str×Bool))(e:Expr)(r:RT):Prop:=
 ∀(W:En)(l:Loc)(env:TV)(s:St)(k:Bool->St->Bool),W.sc=sc->W.calm=true->n<=W.d->bN G W l ns env->r env s k=true->ST C .none W e l (s.den G) (AA G k)
section
variable{C:Cx}{G:b6}{sc:Scope}{n:Nat}{ns:List (Str×Bool)}
noncomputable def tn(v:TV)(k:Bool->Bool):Bool:=
 TV.rec (motive:=λJ=>Bool) false false k (λJ=>false) (λJ=>false) (λJ=>false) (λJ J=>false) (λJ=>false) (λJ=>false) (λJ=>false) false (λJ J J J=>false) v
theorem qi{v:TV}{k:Bool->Bool}(h:tn v k=true):∃b,v=.bool b/\k b=true:=by
 cases v<;>first | exact⟨_,rfl,h⟩ | exact nt h
theorem MT.go{e:Expr}{r:RT}{W:En}{l:Loc}{env:TV}{s:St}{k:Bool->St->Bool}{Q:Bool->aK->Prop}(h:MT C G sc n ns e r)(h1:W.sc=sc)(h2:W.calm=true)(h3:n<=W.d)(h4:bN G W l ns env)(hr:r env s k=true)(f:∀c s',k c s'=true->Q c (s'.den G)):ST C .none W e l (s.den G) Q:=
 ST.mono (h W l env s k h1 h2 h3 h4 hr) λc J q=>by
  refine aM q λs' e q=>?_
  rw[e]; exact f c s' q
noncomputable def mz(r:RE):RT:=λenv s k=>r env s λv s=>tn v λb=>k b s
theorem MT.val{e:Expr}{r:RE}(hp:pY e=true)(h:ME C G sc n ns e r):MT C G sc n ns e (mz r):=λW l env s k h1 h2 h3 h4 hr=>
 ST.val hp (h.go h1 h2 h3 h4 hr λv s' q=>by
  refine aM (qi q) λb e1r q=>?_
  subst e1r
  exact⟨b,rfl,s',rfl,q⟩)
noncomputable def B4(r:RT):RT:=λenv s k=>r env s λb s=>k (!b) s
theorem MT.not{e:Expr} {pos}{r:RT}(h:MT C G sc n ns e r):MT C G sc n ns (.UnaryOp .Not e pos) (B4 r):=λW l env s k h1 h2 h3 h4 hr=>
 ST.not (ST.mono (h W l env s _ h1 h2 h3 h4 hr) λJ J q=>q)
noncomputable def Ea(t:RT)(a b:RE):RE:=λenv s k=>t env s λc s=>Bool.rec (b env s k) (a env s k) c
theorem ME.ifExp{t a b:Expr} {pos}{rt:RT}{ra rb:RE}(ht:MT C G sc n ns t rt)(ha:ME C G sc n ns a ra)(hb:ME C G sc n ns b rb):ME C G sc n ns (.IfExp t a b pos) (Ea rt ra rb):=λW l env s k h1 h2 h3 h4 hr=>
 SE.ifExp (ht.go h1 h2 h3 h4 hr λc s' q=>by
  cases c with
  | true=>exact ha W l env s' k h1 h2 h3 h4 q
  | false=>exact hb W l env s' k h1 h2 h3 h4 q)
def MA(C:Cx)(G:b6)(sc:Scope)(n:Nat)(ns:List (Str×Bool))(op:PySem.BoolOp)(es:List Expr)(r:RT):Prop:=
 ∀(W:En)(l:Loc)(env:TV)(s:St)(k:Bool->St->Bool),W.sc=sc->W.calm=true->n<=W.d->bN G W l ns env->r env s k=true->SA C .none W op es l (s.den G) (AA G k)
noncomputable def tK(b:Bool):RT:=λJ s k=>k b s
noncomputable def pT(a b:RT):RT:=λenv s k=>a env s λc s=>Bool.rec (k false s) (b env s k) c
noncomputable def I1(a b:RT):RT:=λenv s k=>a env s λc s=>Bool.rec (b env s k) (k true s) c
theorem MA.nilAnd:MA C G sc n ns .And [] (tK true):=λJ J J s J J J J J h=>SA.nilAnd (a0 s rfl h)
theorem MA.nilOr:MA C G sc n ns .Or [] (tK false):=λJ J J s J J J J J h=>SA.nilOr (a0 s rfl h)
theorem MA.consAnd{e:Expr}{es:List Expr}{a b:RT}(ha:MT C G sc n ns e a)(hb:MA C G sc n ns .And es b):MA C G sc n ns .And (e::es) (pT a b):=λW l env s k h1 h2 h3 h4 hr=>
 SA.consAnd (ha.go h1 h2 h3 h4 hr λc s' q=>by
  cases c with
  | true=>exact hb W l env s' k h1 h2 h3 h4 q
  | false=>exact a0 s' rfl q)
theorem MA.consOr{e:Expr}{es:List Expr}{a b:RT}(ha:MT C G sc n ns e a)(hb:MA C G sc n ns .Or es b):MA C G sc n ns .Or (e::es) (I1 a b):=λW l env s k h1 h2 h3 h4 hr=>
 SA.consOr (ha.go h1 h2 h3 h4 hr λc s' q=>by
  cases c with
  | true=>exact a0 s' rfl q
  | false=>exact hb W l env s' k h1 h2 h3 h4 q)
theorem MT.boolOp{op:PySem.BoolOp}{es:List Expr} {pos}{r:RT}(h:MA C G sc n ns op es r):MT C G sc n ns (.BoolOp op es pos) r:=λW l env s k h1 h2 h3 h4 hr=>ST.boolOp (h W l env s k h1 h2 h3 h4 hr)
def MC(C:Cx)(G:b6)(op:CmpOp)(c:TV->TV->St->(Bool->Bool)->Bool):Prop:=
 ∀(W:En)(x y:TV)(s:St)(k:Bool->Bool)(Q:V->aK->Prop),W.calm=true->c x y s k=true->(∀b,k b=true->Q (.bool b) (s.den G))->SV C .none W (s.den G) [x.den G,y.den G] (jA op) Q
noncomputable def vF(c:TV->TV->St->(Bool->Bool)->Bool)(a b:RE):RE:=λenv s k=>a env s λx s=>b env s λy s=>c x y s λz=>k (.bool z) s
noncomputable def cg(c:TV->TV->St->(Bool->Bool)->Bool)(a b:RE):RT:=λenv s k=>a env s λx s=>b env s λy s=>c x y s λz=>k z s
theorem ME.cmp{op:CmpOp}{c:TV->TV->St->(Bool->Bool)->Bool}{e f:Expr}{a b:RE} {pos}(hc:MC C G op c)(hm:behindInMarks op f=false)(ha:ME C G sc n ns e a)(hb:ME C G sc n ns f b):ME C G sc n ns (.Compare e [op] [f] pos) (vF c a b):=λW l env s k h1 h2 h3 h4 hr=>
 SE.cmp hm (ha.go h1 h2 h3 h4 hr λx s' q=>by
  exact hb.go h1 h2 h3 h4 q λy s'' q=>by
   exact hc W x y s'' _ _ h2 q λz hz=>(bX (.bool z) s'' rfl rfl hz))
theorem MT.cmp{op:CmpOp}{c:TV->TV->St->(Bool->Bool)->Bool}{e f:Expr}{a b:RE} {pos}(hc:MC C G op c)(hm:behindInMarks op f=false)(ha:ME C G sc n ns e a)(hb:ME C G sc n ns f b):MT C G sc n ns (.Compare e [op] [f] pos) (cg c a b):=λW l env s k h1 h2 h3 h4 hr=>
 ST.cmp hm (ha.go h1 h2 h3 h4 hr λx s' q=>by
  exact hb.go h1 h2 h3 h4 q λy s'' q=>by
   exact hc W x y s'' _ _ h2 q λz hz=>⟨z,rfl,s'',rfl,hz⟩)
noncomputable def dw(v:TV)(s:St)(k:Pos->TV->Bool):Bool:=
 TV.rec (motive:=λJ=>Bool) false false (λJ=>false) (λJ=>false) (λJ=>false) (λJ=>false) (λJ J=>false) (λp=>s.at p λo=>TO.rec (motive:=λJ=>Bool) (λds=>k p ds) (λJ J=>false) (λJ J=>false) (λJ=>false) (λJ=>false) o) (λJ=>false) (λJ=>false) false (λJ J J J=>false) v
theorem cG(G:b6){v:TV}{s:St}{k:Pos->TV->Bool}(h:dw v s k=true):∃p ds,v=.ref p/\(s.den G).get p.num=some (.list (ds.dens G))/\k p ds=true:=by
 cases v with
 | ref p=>
  refine aM (d8 G (k:=λo=>TO.rec (motive:=λJ=>Bool) (λds=>k p ds) (λJ J=>false) (λJ J=>false) (λJ=>false) (λJ=>false) o) h) λo ho h=>?_
  cases o with
  | list ds=>exact bX p ds rfl ho h
  | _=>exact nt h
 | _=>exact nt h
noncomputable def cW(a:Bool)(b:Bool):Bool:=Bool.rec false b a
theorem bO{a b:Bool}(h:cW a b=true):a=true/\b=true:=by cases a<;>first | exact⟨rfl,h⟩ | exact nt h
noncomputable def dE(x y:TV)(s:St)(k:Bool->Bool):Bool:=
 TV.rec (motive:=λJ=>Bool) false false (λJ=>false) (λJ=>cW (cL x false 6) (cW (cL y false 6) (k (rr x y)))) (λJ=>cW (cL x false 6) (cW (cL y false 6) (k (rr x y)))) (λJ=>cW (cL x false 6) (cW (cL y false 6) (k (rr x y))))
  (λJ J=>cW (cL x false 6) (cW (cL y false 6) (k (rr x y))))
  (λJ=>dw x s λJ ds=>dw y s λJ es=>cW (cL ds true 6) (cW (cL es true 6) (k (rr ds es)))) (λJ=>false) (λJ=>false) false (λJ J J J=>false) x
theorem xY(G:b6)(o:cM G){x y:TV}{s:St}{k:Bool->Bool}(h:dE x y s k=true):∃p q,fO (s.den G) (x.den G) p/\fO (s.den G) (y.den G) q/\shaped p=true/\shaped q=true/\k (dT p q)=true:=by
 have sh:∀{p:PyData}{d:Nat},p.canLay0=true->p.depth<=d->d<=64->shaped p=true:=λa b c=>by
  unfold shaped; rw[a,decide_eq_true (Z b c)]; rfl
 have vals:∀{x y:TV},cW (cL x false 6) (cW (cL y false 6) (k (rr x y)))=true->∃p q,fO (s.den G) (x.den G) p/\fO (s.den G) (y.den G) q/\shaped p=true/\shaped q=true/\k (dT p q)=true:=λ{x y} h=>by
  refine eV (bO h) λh1 h=>?_
  refine eV (bO h) λh2 h=>?_
  refine sE ((iY o x 6).1 h1) λa1 a2 a3=>?_
  refine sE ((iY o y 6).1 h2) λb1 b2 b3=>?_
  exact G3 _ _ (.inl ⟨a1,rfl⟩) (.inl ⟨b1,rfl⟩) (sh a2 a3 (by decide)) (sh b2 b3 (by decide)) (by rw[(wg o x y 6 6).1 h1 h2]; exact h)
 cases x with
 | nat _=>exact vals h
 | neg _=>exact vals h
 | str _=>exact vals h
 | tup _=>exact vals h
 | ref p=>
  refine bD (cG G (v:=.ref p) (k:=λJ ds=>dw y s λJ es=>cW (cL ds true 6) (cW (cL es true 6) (k (rr ds es)))) h) λp ds e1 g1 h=>?_
  obtain⟨q,es,rfl,g2,h⟩:=cG G h
  cases e1
  obtain⟨h1,h⟩:=bO h
  obtain⟨h2,h⟩:=bO h
  refine sE ((iY o ds 6).2 h1) λa1 a2 a3=>?_
  refine sE ((iY o es 6).2 h2) λb1 b2 b3=>?_
  refine G3 _ _ (.inr ⟨_,IsL.ref g1,a1,rfl⟩) (.inr ⟨_,IsL.ref g2,b1,rfl⟩) (sh (d:=7) a2 (cq a3) (by decide)) (sh (d:=7) b2 (cq b3) (by decide)) ?_
  show k (wk _ _)=true
  rw[(wg o ds es 6 6).2 h1 h2]; exact h
 | _=>exact nt h
theorem im(o:cM G):MC C G .Eq dE:=λW x y s k Q J h hq=>by
 refine wq (xY G o h) λp q d1 d2 s1 s2 h=>?_
 exact BM d1 d2 s1 s2 (hq _ h)
noncomputable def tf(c:TV->TV->St->(Bool->Bool)->Bool):TV->TV->St->(Bool->Bool)->Bool:=λx y s k=>c x y s λb=>k (!b)
theorem nE(o:cM G):MC C G .NotEq (tf dE):=λW x y s k Q J h hq=>by
 refine wq (xY G o (k:=λb=>k (!b)) h) λp q d1 d2 s1 s2 h=>?_
 exact BJ d1 d2 s1 s2 (hq _ h)
end
section
variable{C:Cx}{G:b6}{sc:Scope}{n:Nat}{ns:List (Str×Bool)}
noncomputable def og(c:Nat)(v:TV)(s:St)(k:Pos->TV->Bool):Bool:=
 TV.rec (motive:=λJ=>Bool) false false (λJ=>false) (λJ=>false) (λJ=>false) (λJ=>false) (λJ J=>false) (λp=>s.at p λo=>TO.rec (motive:=λJ=>Bool) (λJ=>false) (λJ J=>false) (λc' ds=>cW (bn c' c) (k p ds)) (λJ=>false) (λJ=>false) o) (λJ=>false) (λJ=>false) false (λJ J J J=>false) v
theorem qh(G:b6){c:Nat}{v:TV}{s:St}{k:Pos->TV->Bool}(h:og c v s k=true):∃p ds,v=.ref p/\(s.den G).get p.num=some (.inst c ((G.flds c).zip (ds.dens G)))/\k p ds=true:=by
 cases v with
 | ref p=>
  refine aM (d8 G (k:=λo=>TO.rec (motive:=λJ=>Bool) (λJ=>false) (λJ J=>false) (λc' ds=>cW (bn c' c) (k p ds)) (λJ=>false) (λJ=>false) o) h) λo ho h=>?_
  cases o with
  | inst c' ds=>
   have h':cW (bn c' c) (k p ds)=true:=h
   refine eV (bO h') λh1 h2=>?_
   obtain rfl:=bk h1
   exact bX p ds rfl ho h2
  | _=>exact nt h
 | _=>exact nt h
noncomputable def xE(v:TV)(b:Bool):Bool:=
 TV.rec (motive:=λJ=>Bool) false b (λJ=>b) (λJ=>b) (λJ=>b) (λJ=>b) (λJ J=>b) (λJ=>b) (λJ=>false) (λJ=>b) false (λJ J J J=>false) v
theorem ET{v:TV}{b:Bool}(h:xE v b=true):Be (v.den G)=true/\b=true:=by
 cases v<;>first | exact⟨rfl,h⟩ | exact nt h
noncomputable def xN:List Str->Str->Nat->Bool
 | x::_,y,0=>x==y
 | x::r,y,i+1=>!(x==y)&&xN r y i
 | [],_,_=>false
theorem Ck{y:Str}{d:V}:∀{ns:List Str}{ds:List V}{i:Nat},xN ns y i=true->ds[i]?=some d->sP (ns.zip ds) y=some d:=by
 intro ns
 induction ns with
 | nil=>exact @λJ i h=>by cases i<;>cases h
 | cons x ns ih=>
  intro ds i h hd
  cases ds with
  | nil=>cases hd
  | cons e ds=>
   show((List.find? _ ((x,e)::ns.zip ds)).map _)=_
   rw[cU]
   cases i with
   | zero=>
    cases hd
    rw[show(x==y)=true from h]; rfl
   | succ i=>
    have h:=dZ h
    rw[show(x==y)=false from qF h.1]
    exact ih h.2 hd
structure ed(C:Cx)(G:b6)(c:Nat)(name:Str)(i:Nat):Prop where
 cls:lw C.K c
 none:findIn C.K (.ref c) name=some ax
 pos:xN (G.flds c) name i=true
noncomputable def bq(c i:Nat)(a:RE):RE:=λenv s k=>a env s λv s=>og c v s λJ ds=>o9 i ds λw=>xE w (k w s)
def MB(C:Cx)(G:b6)(op:Operator)(c:TV->TV->St->KT->Bool):Prop:=
 ∀(W:En)(x y:TV)(s:St)(k:KT),W.calm=true->c x y s k=true->SV C .none W (s.den G) [x.den G,y.den G] (tY op) (Tells G k)
noncomputable def fp(c:TV->TV->St->KT->Bool)(a b:RE):RE:=λenv s k=>a env s λx s=>b env s λy s=>c x y s k
theorem ME.bin{op:Operator}{c:TV->TV->St->KT->Bool}{e f:Expr}{a b:RE} {pos}(hc:MB C G op c)(ha:ME C G sc n ns e a)(hb:ME C G sc n ns f b):ME C G sc n ns (.BinOp e op f pos) (fp c a b):=λW l env s k h1 h2 h3 h4 hr=>
 SE.bin (ha.go h1 h2 h3 h4 hr λx s' q=>by
  exact hb.go h1 h2 h3 h4 q λy s'' q=>by
   exact hc W x y s'' k h2 q)
noncomputable def gn(v:TV)(k:Nat->Bool):Bool:=
 TV.rec (motive:=λJ=>Bool) false false (λJ=>false) k (λJ=>false) (λJ=>false) (λJ J=>false) (λJ=>false) (λJ=>false) (λJ=>false) false (λJ J J J=>false) v
theorem dF{v:TV}{k:Nat->Bool}(h:gn v k=true):∃m,v=.nat m/\k m=true:=by
 cases v<;>first | exact⟨_,rfl,h⟩ | exact nt h
noncomputable def Aw:TV->TV->St->KT->Bool:=λx y s k=>gn x λa=>gn y λb=>Bool.rec (k (.neg (Nat.sub (Nat.sub b a) 1)) s) (k (.nat (Nat.sub a b)) s) (bm b a)
theorem MB.sub:MB C G .Sub Aw:=λW x y s k J h0=>by
 refine aM (dF (v:=x) h0) λa ea h1=>?_
 refine aM (dF (v:=y) h1) λb eb h=>?_
 subst ea; subst eb
 clear h1
 refine BI ?_
 cases e:bm b a with
 | true=>
  rw[e] at h
  exact bX _ s (by show V.int _=V.int _; have:=N e; congr 1; show(a:Int) - b=((a - b:Nat):Int); exact(Int.ofNat_sub this).symm) rfl h
 | false=>
  rw[e] at h
  refine bX _ s ?_ rfl h
  have:¬b<=a:=λq=>by rw[fP q] at e; cases e
  exact congrArg V.int (Int.subNatNat_eq_coe.symm.trans (Int.subNatNat_of_lt (dJ this)))
end
noncomputable abbrev RF:=TV->St->KT->Bool
def MF(C:Cx)(G:b6)(f:Addr)(n:Nat)(r:RF):Prop:=
 ∀(W:En)(args:TV)(s:St)(k:KT),W.calm=true->n<=W.d->r args s k=true->SC C .none W (s.den G) (.val (.ref f)) (args.dens G) (Tells G k)
section
variable{C:Cx}{G:b6}{sc:Scope}{n:Nat}{ns:List (Str×Bool)}
noncomputable def aO(f:RF)(a:RE):RE:=λenv s k=>a env s λrow s=>f row s k
theorem ME.call{x:Str} {np pos}{args:List Expr}{f:Addr}{m:Nat}{r:RF}{a:RE}(hf:MF C G f m r)(hm:m<=n)(hk:sc.names.lookup x=some .globalImplicit)(e:nsIn C.K mainGlobals x=some (some (.ref f)))(hd:(x==("__debug__":Str))=false)(hkp:keepIn C.K (.ref f)=true)
  (hs:dP args=true)(ha:ML C G sc n ns args a):ME C G sc n ns (.Call (.Name x np) args [] pos) (aO r a):=λW l env s k h1 h2 h3 h4 hr=>
 c9 hs (oE ((h1)▸hk) e ⟨vh hkp,ha.go h1 h2 h3 h4 hr λv s' J q=>hf W v s' k h2 (Z hm h3) q⟩ hd)
structure df(C:Cx)(G:b6)(c:Nat)(name:Str)(f:Addr):Prop where
 cls:lw C.K c
 find:findIn C.K (.ref c) name=some (some (.ref f))
 typ:typeIn C.K (.ref f)=some (.type "function")
 no:(G.flds c).contains name=false
 keep:keepIn C.K (.ref f)=true
theorem xp{y:Str}:∀{ns:List Str}{ds:List V},ns.contains y=false->sP (ns.zip ds) y=ax
 | [],_,_=>by rfl
 | _::_,[],_=>by rfl
 | x::ns,d::ds,h=>by
  rw[kR,jr] at h
  show((List.find? _ ((x,d)::ns.zip ds)).map _)=_
  have h1:(x==y)=false:=by rw[BEq.comm]; exact h.1
  simp only[cU,h1]
  exact xp (ns:=ns) (ds:=ds) h.2
noncomputable def bw(c:Nat)(f:RF)(o a:RE):RE:=λenv s k=>o env s λv s=>og c v s λJ J=>a env s λrow s=>f (.cons v row) s k
theorem ME.meth{o:Expr}{name:Str} {apos pos}{args:List Expr}{pl:Env->Sem Bool}{c:Nat}{f:Addr}{m:Nat}{r:RF}{ro a:RE}(hf:MF C G f m r)(hm:m<=n)(mo:df C G c name f)(hs:dP args=true)
  (he:∀env,eval (.Call (.Attribute o name apos) args [] pos) env=(do
   let ov <-eval o env
   standAt apos.atName
   let (f,first) <-holding [ov] (getMethod ov name (pl env))
   callWith pos f first (backTo pos (starEach args env)) (backToKw pos (keywordEach [] env))))
  (ho:ME C G sc n ns o ro)(ha:ML C G sc n ns args a):ME C G sc n ns (.Call (.Attribute o name apos) args [] pos) (bw c r ro a):=λW l env s k h1 h2 h3 h4 hr=>
 SE.meth hs he (ho.go h1 h2 h3 h4 hr λv s' q=>by
  refine bD (qh G q) λp row e2r hp q=>?_
  subst e2r
  refine SM.inst hp mo.cls mo.find mo.typ (xp mo.no) ⟨vh mo.keep,ha.go h1 h2 h3 h4 q λv s'' J q=>hf W (.cons (.ref p) v) s'' k h2 (Z hm h3) q⟩)
noncomputable abbrev KN:=TV->St->Bool
noncomputable abbrev RS:=TV->St->KN->KT->Bool
def qk(C:Cx)(G:b6)(W:En)(ns:List (Str×Bool))(kn:KN)(kr:KT)(f:Fl)(l:Loc)(σ:aK):Prop:=match f with
 | .next=>∃env s,bN G W l ns env/\σ=s.den G/\kn env s=true
 | .ret d=>Tells G kr d σ
 | _=>False
def MS(C:Cx)(G:b6)(sc:Scope)(n:Nat)(ns:List (Str×Bool))(ss:List Stmt)(r:RS):Prop:=
 ∀(W:En)(l:Loc)(env:TV)(s:St)(kn:KN)(kr:KT),W.sc=sc->W.calm=true->n<=W.d->bN G W l ns env->r env s kn kr=true->SS C .none W ss l (s.den G) (qk C G W ns kn kr)
def M1(C:Cx)(G:b6)(sc:Scope)(n:Nat)(ns:List (Str×Bool))(st:Stmt)(r:RS):Prop:=
 ∀(W:En)(l:Loc)(env:TV)(s:St)(kn:KN)(kr:KT),W.sc=sc->W.calm=true->n<=W.d->bN G W l ns env->r env s kn kr=true->S1 C .none W st l (s.den G) (qk C G W ns kn kr)
theorem rY{X:bc}{W:En}{l:Loc}{σ:aK}{Q Q':Fl->Loc->aK->Prop}{st:Stmt}(h:S1 C X W st l σ Q)(k:∀f l' σ',Q f l' σ'->Q' f l' σ'):S1 C X W st l σ Q':=
 λg A cenv L m s p o=>wpAny_mono (h g A cenv L m s p o) (λJ J ⟨f,l',g',σ',m',x,R,hm,hl,hf,q⟩=>⟨f,l',g',σ',m',x,R,hm,hl,hf,k _ _ _ q⟩) λJ J h=>h
noncomputable def aU:RS:=λenv s kn J=>kn env s
noncomputable def ag(a b:RS):RS:=λenv s kn kr=>a env s (λenv s=>b env s kn kr) kr
theorem MS.nil:MS C G sc n ns [] aU:=λJ J env s J J J J J h4 hr=>SS.nil (bX env s h4 rfl hr)
theorem MS.cons{st:Stmt}{ss:List Stmt}{a b:RS}(ha:M1 C G sc n ns st a)(hb:MS C G sc n ns ss b):MS C G sc n ns (st::ss) (ag a b):=λW l env s kn kr h1 h2 h3 h4 hr=>
 SS.cons (rY (ha W l env s _ kr h1 h2 h3 h4 hr) λf l' σ' q=>by
  cases f with
  | next=>
   obtain⟨env',s',h4',e,q⟩:=q
   subst e
   exact hb W l' env' s' kn kr h1 h2 h3 h4' q
  | ret d=>exact q
  | brk=>exact q.elim
  | cont=>exact q.elim)
noncomputable def cB(r:RE):RS:=λenv s J kr=>r env s kr
theorem M1.ret{e:Expr} {pos}{r:RE}(h:ME C G sc n ns e r):M1 C G sc n ns (.Return (some e) pos) (cB r):=λW l env s kn kr h1 h2 h3 h4 hr=>S1.ret (h W l env s kr h1 h2 h3 h4 hr)
noncomputable def mc(t:RT)(a b:RS):RS:=λenv s kn kr=>t env s λc s=>Bool.rec (b env s kn kr) (a env s kn kr) c
theorem M1.ifS{t:Expr}{a b:List Stmt} {pos}{rt:RT}{ra rb:RS}(ht:MT C G sc n ns t rt)(ha:MS C G sc n ns a ra)(hb:MS C G sc n ns b rb):M1 C G sc n ns (.If t a b pos) (mc rt ra rb):=λW l env s kn kr h1 h2 h3 h4 hr=>
 S1.ifS (ht.go h1 h2 h3 h4 hr λc s' q=>by
  cases c with
  | true=>exact ha W l env s' kn kr h1 h2 h3 h4 q
  | false=>exact hb W l env s' kn kr h1 h2 h3 h4 q)
noncomputable def eD(r:RE):RS:=λenv s kn J=>r env s λJ s=>kn env s
theorem M1.expr{e:Expr} {pos}{r:RE}(hn:jk e=true)(h:ME C G sc n ns e r):M1 C G sc n ns (.Expr e pos) (eD r):=λW l env s kn kr h1 h2 h3 h4 hr=>
 S1.expr hn (h.go h1 h2 h3 h4 hr λJ s' q=>(bX env s' h4 rfl q))
end
noncomputable def w5(k:Nat)(v:TV):TV->TV:=
 Nat.rec (motive:=λJ=>TV->TV)
  (λl=>TV.rec (motive:=λJ=>TV) .nil .nil (λJ=>.nil) (λJ=>.nil) (λJ=>.nil) (λJ=>.nil) (λJ J=>.nil) (λJ=>.nil) (λJ=>.nil) (λJ=>.nil) .nil (λJ r J J=>.cons v r) l)
  (λJ ih l=>TV.rec (motive:=λJ=>TV) .nil .nil (λJ=>.nil) (λJ=>.nil) (λJ=>.nil) (λJ=>.nil) (λJ J=>.nil) (λJ=>.nil) (λJ=>.nil) (λJ=>.nil) .nil (λa r J J=>.cons a (ih r)) l) k
noncomputable def xA:List (Str×Bool)->Str->Nat->Bool
 | (y,b)::r,x,0=>(y==x)&&!b&&r.all λz=>z.2||!(z.1==x)
 | (y,b)::r,x,i+1=>(b||!(y==x))&&xA r x i
 | [],_,_=>false
theorem neB{x y:Str}(h:(false||!(y==x))=true):y≠x:=λq=>by subst q; simp at h
theorem wM{G:b6}{W:En}{l:Loc}{x:Str}{d:V}:∀{ns:List (Str×Bool)}{env:TV},(ns.all λz=>z.2||!(z.1==x))=true->bN G W l ns env->bN G W (l.set x d) ns env:=by
 intro ns
 induction ns with
 | nil=>exact @λJ J J=>trivial
 | cons p ns ih=>
  intro env h e
  have h:=dZ h
  refine za e.isCons λa r e'=>?_
  subst e'
  obtain⟨y,b⟩:=p
  cases b with
  | true=>exact⟨e.1,ih h.2 e.2⟩
  | false=>exact⟨(if_neg (neB h.1)).trans e.1,ih h.2 e.2⟩
theorem bN.set{G:b6}{W:En}{l:Loc}{x:Str}{v:TV}(hv:v.deno G=some (v.den G)):∀{ns:List (Str×Bool)}{env:TV}{i:Nat},xA ns x i=true->bN G W l ns env->bN G W (l.set x (v.den G)) ns (w5 i v env):=by
 intro ns
 induction ns with
 | nil=>exact @λJ i h=>by cases i<;>cases h
 | cons p ns ih=>
  intro env i h e
  refine za e.isCons λa r e'=>?_
  subst e'
  obtain⟨y,b⟩:=p
  cases i with
  | zero=>
   have h3:=dZ h
   have h2:=dZ h3.1
   cases b with
   | true=>exact nt h2.2
   | false=>exact⟨(if_pos (eq_of_beq h2.1)).trans hv.symm,wM h3.2 e.2⟩
  | succ i=>
   have h:=dZ h
   cases b with
   | true=>exact⟨e.1,ih h.2 e.2⟩
   | false=>exact⟨(if_neg (neB h.1)).trans e.1,ih h.2 e.2⟩
section
variable{C:Cx}{G:b6}{sc:Scope}{n:Nat}{ns:List (Str×Bool)}
noncomputable abbrev RG:=TV->St->TV->KN->Bool
def MG(C:Cx)(G:b6)(sc:Scope)(n:Nat)(ns:List (Str×Bool))(t:Expr)(r:RG):Prop:=
 ∀(W:En)(l:Loc)(env:TV)(s:St)(v:TV)(kn:KN),W.sc=sc->W.calm=true->n<=W.d->bN G W l ns env->r env s v kn=true->
  SG C .none W t l (s.den G) (v.den G) λl' σ'=>∃env' s',bN G W l' ns env'/\σ'=s'.den G/\kn env' s'=true
noncomputable def bo(i:Nat):RG:=λenv s v kn=>q6 v (kn (w5 i v env) s)
theorem MG.loc{i:Nat}{x:Str} {pos}(hk:sc.names.lookup x=some .local)(hi:xA ns x i=true):MG C G sc n ns (.Name x pos) (bo i):=λW l env s v kn h1 h2 h3 h4 hr=>by
 refine eV (j9 (G:=G) hr) λhv q=>?_
 exact SG.local ((h1)▸hk) (bX _ s (bN.set hv hi h4) rfl q)
noncomputable def bK(g:RG)(r:RE):RS:=λenv s kn J=>r env s λv s=>g env s v kn
theorem M1.assign{t e:Expr} {pos}{g:RG}{r:RE}(hn:jk e=true)(hw:swappedStores [t] e (lr sc)=pure .none)(ht:dW t=true)(hg:MG C G sc n ns t g)(h:ME C G sc n ns e r):M1 C G sc n ns (.Assign [t] e pos) (bK g r):=λW l env s kn kr h1 h2 h3 h4 hr=>
 S1.assign hn ((h1)▸hw) ht (h.go h1 h2 h3 h4 hr λv s' q=>by
  exact SG.mono (hg W l env s' v kn h1 h2 h3 h4 q) λl' σ' q=>q)
end
section
variable{C:Cx}{G:b6}{sc:Scope}{n:Nat}{ns:List (Str×Bool)}{W:En}{l:Loc}{σ:aK}
theorem S1.while{Q:Fl->Loc->aK->Prop}{t:Expr}{body:List Stmt} {pos}(Inv:Nat->Loc->aK->Prop)
  (step:∀k l σ,Inv k l σ->ST C .none W t l σ λb aA=>if b=true then SS C .none W body l aA λf qV aT=>match f with
   | .next | .cont=>∃m,m<k/\Inv m qV aT
   | .brk=>Q .next qV aT
   | .ret v=>Q (.ret v) qV aT else Q .next l aA)(k:Nat)(h:Inv k l σ):S1 C .none W (.While t body [] pos) l σ Q:=λg A cenv L m s p o=>by
 refine wpAny_While (codeAny_whileLoop (λk s=>∃l σ g' m,Inv k l σ/\kU C W l σ g' A cenv L m s/\eG L g g') ?_ k (m43 l σ g m h p (eG.refl L g)))
 intro k s hq
 refine o43 hq λl σ g' m hI p x=>?_
 refine wpAny_mono (step k l σ hI g' A cenv L m s p) ?_ λJ J h=>h.elim
 rintro b aQ ⟨cj,aA,jx,b7,q⟩
 have cf:=p.step jx b7
 cases b with
 | false=>
  exact wpAny_execs_nil ⟨.next,l,cj,aA,m,x.trans (jx.l L),b7,cf.fm,cf.fl,rfl,q⟩
 | true=>
  refine wpAny_mono (q cj A cenv L m aQ cf o) ?_ λJ J h=>h.elim
  rintro fl b8 ⟨f,qV,dR,aT,Dk,lB,dM,hm,hl,hf,q⟩
  have xx:=(x.trans (jx.l L)).trans lB
  have go:(∃m,m<k/\Inv m qV aT)->∃m,m<k/\∃l σ g' m',Inv m l σ/\kU C W l σ g' A cenv L m' b8/\eG L g g':=λhq=>aM hq λj hj hI=>⟨j,hj,qV,aT,dR,Dk,hI,cf.stepL lB dM hm hl,xx⟩
  cases f with
  | next=>obtain rfl:fl=.next:=hf; exact go q
  | cont=>obtain rfl:fl=.cont:=hf; exact go q
  | brk=>obtain rfl:fl=.brk:=hf; exact⟨.next,qV,dR,aT,Dk,xx,dM,hm,hl,rfl,q⟩
  | ret d=>refine aM hf λv e1r hv=>?_; subst e1r; exact⟨.ret d,qV,dR,aT,Dk,xx,dM,hm,hl,(a0 v rfl hv),q⟩
noncomputable def pV(t:RT)(b:RS)(f:Nat):RS:=λenv s kn kr=>
 Nat.rec (motive:=λJ=>TV->St->Bool) (λJ J=>false) (λJ ih env s=>t env s λc s=>Bool.rec (kn env s) (b env s ih kr) c) f env s
theorem M1.while{t:Expr}{body:List Stmt} {pos}{rt:RT}{rb:RS}(f:Nat)(ht:MT C G sc n ns t rt)(hb:MS C G sc n ns body rb):M1 C G sc n ns (.While t body [] pos) (pV rt rb f):=λW l env s kn kr h1 h2 h3 h4 hr=>
 S1.while (λk l σ=>∃env s,bN G W l ns env/\σ=s.den G/\pV rt rb k env s kn kr=true) (λk l σ hq=>bD hq λenv s h4 e hr=>by
  subst e
  cases k with
  | zero=>exact nt hr
  | succ k=>
   refine ht.go h1 h2 h3 h4 hr λc s' q=>?_
   cases c with
   | false=>exact bX env s' h4 rfl q
   | true=>
    refine SS.mono (hb W l env s' _ kr h1 h2 h3 h4 q) λfl l' σ' q=>?_
    cases fl with
    | next=>refine bD q λenv' s'' h5 e q=>?_; exact⟨k,bU k,env',s'',h5,e,q⟩
    | ret d=>exact q
    | brk=>exact q.elim
    | cont=>exact q.elim) f (bX env s h4 rfl hr)
end
theorem jl{k:Str->Option NameKind}{y:Str}:∀{ps:List Str}{ds:List V}{l:Loc},ps.contains y=false->mX k (ps.zip ds) l y=l y
 | [],_,_,_=>by rfl
 | _::_,[],_,_=>by rfl
 | x::ps,d::ds,l,h=>by
  rw[kR,jr] at h
  show mX k (ps.zip ds) _ y=_
  rw[jl (ps:=ps) h.2]
  have:y≠x:=λe=>by rw[e,beq_self_eq_true] at h; cases h.1
  split
  ·show(if y=x then _ else _)=_; rw[if_neg this]
  ·rfl
section
variable{C:Cx}{G:b6}
end
section
variable{C:Cx}{G:b6}{sc:Scope}{n:Nat}{ns:List (Str×Bool)}
noncomputable def Lg(ds y:TV)(k:TV->Bool):Bool:=gn y λj=>cW (bm j 1000000) (o9 j ds k)
theorem FP(G:b6){ds y:TV}{k:TV->Bool}(h:Lg ds y k=true):∃j v,y=.nat j/\j<=1000000/\(ds.dens G)[j]?=some (v.den G)/\k v=true:=by
 refine aM (dF h) λj e h1=>?_
 obtain⟨h2,h3⟩:=bO h1
 refine aM (rD G h3) λv hv h4=>?_
 exact Im j v e (N h2) hv h4
end
noncomputable def pz:List Str->Str->Option Nat
 | [],_=>none
 | x::ps,y=>if x==y then(if ps.contains y then none else some 0) else(pz ps y).map bf
theorem jn{k:Str->Option NameKind}{y:Str}:∀{ps:List Str}{ds:List V}{l:Loc},ps.contains y=false->jP k (ps.zip ds) l y=l y
 | [],_,_,_=>by rfl
 | _::_,[],_,_=>by rfl
 | x::ps,d::ds,l,h=>by
  rw[kR,jr] at h
  show jP k (ps.zip ds) _ y=_
  rw[jn (ps:=ps) h.2]
  have:y≠x:=λe=>by rw[e,beq_self_eq_true] at h; cases h.1
  split
  ·rfl
  ·show(if y=x then _ else _)=_; rw[if_neg this]
theorem ti{k:Str->Option NameKind}{y:Str}(hk:k y≠some .local):∀{ps:List Str}{ds:List V}{l:Loc}{i:Nat}{d:V},pz ps y=some i->ds[i]?=some d->jP k (ps.zip ds) l y=some d:=by
 intro ps
 induction ps with
 | nil=>exact @λJ J J J h=>by cases h
 | cons x ps ih=>
  intro ds l i d h hd
  cases ds with
  | nil=>cases hd
  | cons e ds=>
    unfold pz at h
    by_cases q:(x==y)=true
    ·rw[if_pos q] at h
     have q':=eq_of_beq q
     subst q'
     by_cases c:ps.contains x=true
     ·rw[if_pos c] at h; cases h
     ·rw[if_neg c] at h
      cases h
      cases hd
      show jP k (ps.zip ds) _ x=_
      rw[jn (by simpa using c),if_neg hk]
      show(if x=x then _ else _)=_
      rw[if_pos rfl]
    ·rw[if_neg q] at h
     refine aM (aY.mp h) λj hj e2r=>?_
     subst e2r
     exact ih hj hd
theorem th{k:Str->Option NameKind}{y:Str}(hk:k y=some .local):∀{ps:List Str}{ds:List V}{l:Loc}{i:Nat}{d:V},pz ps y=some i->ds[i]?=some d->mX k (ps.zip ds) l y=some d:=by
 intro ps
 induction ps with
 | nil=>exact @λJ J J J h=>by cases h
 | cons x ps ih=>
  intro ds l i d h hd
  cases ds with
  | nil=>cases hd
  | cons e ds=>
    unfold pz at h
    by_cases q:(x==y)=true
    ·rw[if_pos q] at h
     have q':=eq_of_beq q
     subst q'
     by_cases c:ps.contains x=true
     ·rw[if_pos c] at h; cases h
     ·rw[if_neg c] at h
      cases h
      cases hd
      show mX k (ps.zip ds) _ x=_
      rw[jl (by simpa using c),if_pos hk]
      show(if x=x then _ else _)=_
      rw[if_pos rfl]
    ·rw[if_neg q] at h
     refine aM (aY.mp h) λj hj e2r=>?_
     subst e2r
     exact ih hj hd
noncomputable def Bk(o:Option Nat)(args:TV)(c:TV->Bool):Bool:=Option.rec (motive:=λJ=>Bool) (c .unset) (λi=>o9 i args λv=>q6 v (c v)) o
noncomputable def y6(cs:List (Option Nat))(args:TV):TV->St->(TV->St->Bool)->Bool:=
 List.rec (motive:=λJ=>TV->St->(TV->St->Bool)->Bool) (λacc s k=>k acc s)
  (λo J ih acc s k=>Bk o args λv=>s.push (.cell v) λp s=>ih (.cons (.ref p) acc) s k) cs
noncomputable def Ip(ls:List Nat)(args u:TV):(TV->Bool)->Bool:=
 List.rec (motive:=λJ=>(TV->Bool)->Bool) (λc=>c u) (λi J ih c=>o9 i args λv=>q6 v (ih λr=>c (.cons v r))) ls
noncomputable def EA(m:Nat)(b:Bool):TV->Bool:=
 Nat.rec (motive:=λJ=>TV->Bool)
  (λl=>TV.rec (motive:=λJ=>Bool) false false (λJ=>false) (λJ=>false) (λJ=>false) (λJ=>false) (λJ J=>false) (λJ=>false) (λJ=>false) (λJ=>false) b (λJ J J J=>false) l)
  (λJ ih l=>TV.rec (motive:=λJ=>Bool) false false (λJ=>false) (λJ=>false) (λJ=>false) (λJ=>false) (λJ J=>false) (λJ=>false) (λJ=>false) (λJ=>false) false (λJ r J J=>ih r) l) m
theorem rE(G:b6):∀{m:Nat}{b:Bool}{l:TV},EA m b l=true->(l.dens G).length=m/\b=true:=by
 intro m
 induction m with
 | zero=>
  intro b l h
  cases l with
  | nil=>exact⟨rfl,h⟩
  | _=>exact nt h
 | succ m ih=>
  intro b l h
  cases l with
  | cons _ r=>exact eV (ih (l:=r) h) λa b=>⟨congrArg bf a,b⟩
  | _=>exact nt h
def yl(G:b6)(b:Loc)(args:TV)(x:Str)(o:Option Nat):Prop:=match o with
 | none=>b x=none
 | some i=>∀v,(args.dens G)[i]?=some v->b x=some v
theorem Aq{G:b6}{b:Loc}{args:TV}{x:Str}{o:Option Nat}{c:TV->Bool}(hs:yl G b args x o)(h:Bk o args c=true):∃v,v.deno G=b x/\c v=true:=by
 cases o with
 | none=>exact a0 .unset (by rw[show b x=none from hs]; rfl) h
 | some i=>
  refine aM (rD G h) λv hv h=>?_
  obtain⟨h1,h2⟩:=j9 (G:=G) h
  exact a0 v (by rw[h1,hs _ hv]) h2
noncomputable def uC(b:Loc):List Str->aK->aK
 | [],σ=>σ
 | x::r,σ=>uC b r (σ.push (.cell (b x)))
noncomputable def s9(n:Nat):List Str->List (Str×Nat)->List (Str×Nat)
 | [],acc=>acc
 | x::r,acc=>s9 (n+1) r ((x,n)::acc)
noncomputable def ju:List (Str×NameKind)->List Str
 | []=>[]
 | (x,k)::r=>if k==.cell then x::ju r else ju r
theorem qE{b:Loc}{names:List (Str×NameKind)}:∀{σ:aK},sz b names σ=uC b (ju names) σ:=by
 induction names with
 | nil=>exact @λJ=>rfl
 | cons hd0 r ih=>
  obtain⟨x,k⟩:=hd0
  intro σ
  show(if (k==.cell)=true then _ else sz b r σ)=uC b (if (k==.cell)=true then _ else _) σ
  by_cases h:(k==.cell)=true
  ·rw[if_pos h,if_pos h]; exact ih
  ·rw[if_neg h,if_neg h]; exact ih
theorem cellsFrom_names{names:List (Str×NameKind)}:∀{n:Nat}{acc:List (Str×Nat)},cellsFrom n names acc=s9 n (ju names) acc:=by
 induction names with
 | nil=>exact @λJ J=>rfl
 | cons hd0 r ih=>
  obtain⟨x,k⟩:=hd0
  intro n acc
  show(if (k==.cell)=true then _ else cellsFrom n r acc)=s9 n (if (k==.cell)=true then _ else _) acc
  by_cases h:(k==.cell)=true
  ·rw[if_pos h,if_pos h]; exact ih
  ·rw[if_neg h,if_neg h]; exact ih
theorem CT{x:Str}{cs:List Str}:∀{n:Nat}{acc:List (Str×Nat)},cs.contains x=false->(s9 n cs acc).lookup x=acc.lookup x:=by
 induction cs with
 | nil=>exact @λJ J J=>rfl
 | cons y cs ih=>
  intro n acc h
  rw[kR,jr] at h
  show(s9 (n+1) cs ((y,n)::acc)).lookup x=_
  rw[ih h.2,jf,h.1]
theorem uD{G:b6}{b:Loc}{args:TV}{W:En}{l:Loc}{cs:List (Str×Option Nat)}:∀{n:Nat}{al:List (Str×Nat)}{ns:List (Str×Bool)}{acc:TV}{s:St}{k:TV->St->Bool},
  (∀x o,(x,o)∈cs->yl G b args x o)->(cs.map (·.1)).Nodup->(s.den G).nx=n->W.cells=s9 n (cs.map (·.1)) al->bN G W l ns acc->y6 (cs.map (·.2)) args acc s k=true->
  ∃row s',bN G W l (cs.reverse.map (λc=>(c.1,true))++ns) row/\s'.den G=uC b (cs.map (·.1)) (s.den G)/\k row s'=true:=by
 induction cs with
 | nil=>exact @λJ J J acc s J J J J J e h=>(bX acc s e rfl h)
 | cons hd0 cs ih=>
  obtain⟨x,o⟩:=hd0
  intro n al ns acc s k hs hn hx hc e h
  rw[bQ,fH] at hn
  refine aM (Aq (G:=G) (hs x o (.head _)) (c:=λv=>s.push (.cell v) λp s=>y6 (cs.map λ(c:Str×Option Nat)=>c.2) args (.cons (.ref p) acc) s k) h) λv hv h=>?_
  refine bD (cy G h) λp s' hp hs' h=>?_
  have hnx:(s'.den G).nx=n+1:=by rw[hs',wB,hx]
  have hcell:W.cells.lookup x=some p.num:=by
   rw[hc]
   show(s9 (n+1) (cs.map (·.1)) ((x,n)::al)).lookup x=_
   rw[CT (by simpa using hn.1),List.lookup_cons_self,hp,hx]
  refine bD (ih (al:=(x,n)::al) (ns:=(x,true)::ns) (acc:=.cons (.ref p) acc) (λy o' hy=>hs y o' (.tail _ hy)) hn.2 hnx hc ⟨(a0 p rfl hcell),e⟩ h) λrow s'' e' hd hk=>?_
  refine bX row s'' ?_ ?_ hk
  ·rw[iB,dX,iF]; exact e'
  ·rw[hd,hs']
   show uC b (cs.map (·.1)) ((s.den G).push (.cell (v.deno G)))=uC b (cs.map (·.1)) ((s.den G).push (.cell (b x)))
   rw[hv]
theorem xq{G:b6}{W:En}{l:Loc}{args u:TV}{rest:List (Str×Bool)}(hu:bN G W l rest u){ls:List (Str×Nat)}:∀{c:TV->Bool},
  (∀x i,(x,i)∈ls->∀v,(args.dens G)[i]?=some v->l x=some v)->Ip (ls.map (·.2)) args u c=true->∃row,bN G W l (ls.map (λx=>(x.1,false))++rest) row/\c row=true:=by
 induction ls with
 | nil=>exact @λJ J h=>(a0 u hu h)
 | cons hd0 ls ih=>
  obtain⟨x,i⟩:=hd0
  intro c hl h
  refine aM (rD G h) λv hv h=>?_
  obtain⟨h1,h⟩:=j9 (G:=G) h
  refine aM (ih (c:=λr=>c (.cons v r)) (λy j hy=>hl y j (.tail _ hy)) h) λrow e hc=>?_
  exact a0 (.cons v row) ⟨by rw[h1]; exact hl x i (.head _) _ hv,e⟩ hc
structure yf(scope:Scope)(ps:List Str)(cs:List (Str×Option Nat))(ls:List (Str×Nat))(rest:List (Str×Bool)):Prop where
 names:ju scope.names=cs.map (·.1)
 nodup:(cs.map (·.1)).Nodup
 cells:∀x o,(x,o)∈cs->scope.names.lookup x≠some .local/\match o with | some i=>pz ps x=some i | none=>ps.contains x=false
 locs:∀x i,(x,i)∈ls->scope.names.lookup x=some .local/\pz ps x=some i
 rest:∀x b,(x,b)∈rest->b=false/\ps.contains x=false
noncomputable def y0(scope:Scope)(ps:List Str)(cs:List (Str×Option Nat))(ls:List (Str×Nat))(rest:List (Str×Bool)):Bool:=
 decide (ju scope.names=cs.map (·.1))&&decide ((cs.map (·.1)).Nodup)&&(cs.all λc=>!(scope.names.lookup c.1==some .local)&&match c.2 with | some i=>pz ps c.1==some i | none=>!ps.contains c.1)
  &&(ls.all λc=>scope.names.lookup c.1==some .local&&pz ps c.1==some c.2)&&rest.all λc=>!c.2&&!ps.contains c.1
theorem yf.of{scope:Scope}{ps:List Str}{cs:List (Str×Option Nat)}{ls:List (Str×Nat)}{rest:List (Str×Bool)}(h:y0 scope ps cs ls rest=true):yf scope ps cs ls rest:=by
 unfold y0 at h
 simp only[aZ,decide_eq_true_eq,bu] at h
 obtain⟨⟨⟨⟨h1,h2⟩,h3⟩,h4⟩,h5⟩:=h
 refine⟨h1,h2,λx o hx=>?_,λx i hx=>?_,λx b hx=>?_⟩
 ·have:=h3 _ hx
  refine⟨by simpa using this.1,?_⟩
  cases o with
  | none=>simpa using this.2
  | some i=>simpa using this.2
 ·have:=h4 _ hx
  exact⟨by simpa using this.1,by simpa using this.2⟩
 ·have:=h5 _ hx
  exact⟨by simpa using this.1,by simpa using this.2⟩
noncomputable def nT(n:Nat):TV:=Nat.rec (motive:=λJ=>TV) .nil (λJ ih=>.cons .unset ih) n
theorem pS{G:b6}{W:En}{l:Loc}{rest:List (Str×Bool)}:(∀x b,(x,b)∈rest->b=false/\l x=none)->bN G W l rest (nT rest.length):=by
 induction rest with
 | nil=>exact @λJ=>trivial
 | cons hd0 r ih=>
  obtain⟨x,b⟩:=hd0
  intro h
  obtain⟨rfl,hx⟩:=h x b (.head _)
  exact⟨hx,ih λy c hy=>h y c (.tail _ hy)⟩
section
variable{C:Cx}{G:b6}
noncomputable def cT(m:Nat)(cs:List (Option Nat))(ls:List Nat)(u:Nat)(b:RS):RF:=λargs s k=>
 EA m (Ip ls args (nT u) λlrow=>y6 cs args lrow s λenv s=>b env s (λJ s=>k .none s) k) args
theorem MF.fn{a:Addr}{oc:Value}{od:Option Addr}{osl:Array (Option Value)}{name qual:Str}{params:Arguments}{body:List Stmt}{scope:Scope}{dV kV doc pm cdv ct:Value}{an:Option Addr}{n m u:Nat}{cs:List (Str×Option Nat)}{ls:List (Str×Nat)}{rest:List (Str×Bool)}{rb:RS}
  (ho:C.K.lookup a=some ⟨oc,od,.func (fnOf name qual params body scope dV kV doc pm an cdv ct),osl⟩)(hcd:codeIn C.K cdv qual=true)(ff:kF scope (bh params))(hm:(bh params).length=m)(hu:rest.length=u)
  (hb:∀vs:List Value,vs.length=m->bindArgs (fnOf name qual params body scope dV kV doc pm an cdv ct) ⟨vs,[]⟩=pure ((bh params).zip vs))
  (hp:yf scope (bh params) cs ls rest)
  (h:MS C G scope n (cs.reverse.map (λc=>(c.1,true))++(ls.map (λx=>(x.1,false))++rest)) body rb):MF C G a (n+1) (cT m (cs.map (·.2)) (ls.map (·.2)) u rb):=λW args s k h1 h2 hr=>by
 subst hu
 obtain⟨hl,hr⟩:=rE G hr
 refine SC.fn (Xi:=.none) (d':=W.d - 1) ho hcd (Jc h2) ff (λvs hv=>hb vs (hv.trans hl)) jo.none λJ=>?_
 obtain⟨lrow,he,hr⟩:=xq (G:=G) (W:=An scope (s.den G) (W.d - 1) W.calm (some (cdv,qual++".<locals>."))) (l:=uI scope (bh params) (args.dens G)) (rest:=rest) (pS λx b hx=>by
   refine eV (hp.rest x b hx) λq q2=>?_
   exact⟨q,jl q2⟩) (λx i hx v hv=>by
   refine eV (hp.locs x i hx) λq q2=>?_
   exact th q q2 hv) hr
 obtain⟨env,s',he,hs',hr⟩:=uD (G:=G) (b:=jP (λx=>scope.names.lookup x) ((bh params).zip (args.dens G)) λJ=>none) (args:=args) (n:=(s.den G).nx) (al:=[]) (λx o hx=>by
   refine eV (hp.cells x o hx) λq q2=>?_
   cases o with
   | none=>exact jn q2
   | some i=>exact λv hv=>ti q q2 hv) hp.nodup rfl (by rw[<-hp.names,<-cellsFrom_names]; rfl) he hr
 unfold uy
 rw[qE,hp.names,<-hs']
 refine SS.mono (h _ _ env s' _ k rfl h1 (aW h2) he hr) λf l' σ' q=>?_
 cases f with
 | next=>refine bD q λenv' s' J e q=>?_; exact bX .none s' rfl e q
 | ret d=>exact q
 | brk=>exact q.elim
 | cont=>exact q.elim
end
inductive m3(G:b6):tB->Nat->TV->Prop
 | list (p:Pos)(j:Nat):m3 G (Hr (.ref p.num)) j (.cons (.ref p) (.nat j))
 | tup (ds:List V)(r:TV)(j:Nat)(h:r.dens G=ds.drop j):m3 G (FD ds) j (.tup r)
 | rng (n j:Nat):m3 G (JI n) j (.cons (.nat j) (.rng n))
 | enum (ds:List V)(r:TV)(j:Nat)(h:r.dens G=ds.drop j):m3 G (JJ ds) j (.cons (.nat j) (.tup r))
 | zip (as bs:List V)(r q:TV)(j:Nat)(h:r.dens G=as.drop j)(h':q.dens G=bs.drop j):m3 G (JH as bs) j (.cons (.tup r) (.tup q))
noncomputable def bW(n:Bool)(c:TV->TV->Bool)(l:TV):Bool:=
 TV.rec (motive:=λJ=>Bool) false false (λJ=>false) (λJ=>false) (λJ=>false) (λJ=>false) (λJ J=>false) (λJ=>false) (λJ=>false) (λJ=>false) n (λa r J J=>c a r) l
theorem bt{n:Bool}{c:TV->TV->Bool}{l:TV}(h:bW n c l=true):(l=.nil/\n=true)∨∃a r,l=.cons a r/\c a r=true:=by
 cases l<;>first | exact nt h | exact .inl ⟨rfl,h⟩ | exact .inr (rn _ _ rfl h)
noncomputable def Jj(k:Nat)(n:Bool)(c:TV->Bool):TV->Bool:=
 Nat.rec (motive:=λJ=>TV->Bool) (bW n λa J=>c a) (λJ ih=>bW n λJ r=>ih r) k
theorem GW(G:b6){n:Bool}{c:TV->Bool}:∀{k:Nat}{l:TV},Jj k n c l=true->((l.dens G)[k]?=none/\n=true)∨∃v,(l.dens G)[k]?=some (v.den G)/\c v=true:=by
 intro k
 induction k with
 | zero=>
  intro l h
  rcases bt h with ⟨rfl,h⟩ | ⟨a,r,rfl,h⟩
  ·exact .inl ⟨rfl,h⟩
  ·exact .inr (a0 a rfl h)
 | succ k ih=>
  intro l h
  rcases bt h with ⟨rfl,h⟩ | ⟨a,r,rfl,h⟩
  ·exact .inl ⟨rfl,h⟩
  ·exact ih (l:=r) h
noncomputable def xj(it:TV)(s:St)(n:Bool)(c:TV->TV->Bool):Bool:=
 TV.rec (motive:=λJ=>Bool) false false (λJ=>false) (λJ=>false) (λJ=>false) (λJ=>false)
  (λr J=>bW n (λa r=>c a (.tup r)) r) (λJ=>false) (λJ=>false) (λJ=>false) false
  (λa b J J=>TV.rec (motive:=λJ=>Bool) false false (λJ=>false)
   (λj=>TV.rec (motive:=λJ=>Bool) false false (λJ=>false) (λJ=>false) (λJ=>false) (λJ=>false)
    (λr J=>bW n (λa r=>c (.tup (.cons (.nat j) (.cons a .nil))) (.cons (.nat (bf j)) (.tup r))) r) (λJ=>false) (λJ=>false)
    (λm=>Bool.rec n (c (.nat j) (.cons (.nat (bf j)) (.rng m))) (bm (bf j) m)) false (λJ J J J=>false) b)
   (λJ=>false) (λJ=>false)
   (λr J=>TV.rec (motive:=λJ=>Bool) false false (λJ=>false) (λJ=>false) (λJ=>false) (λJ=>false)
    (λq J=>bW n (λx r=>bW n (λy q=>c (.tup (.cons x (.cons y .nil))) (.cons (.tup r) (.tup q))) q) r) (λJ=>false) (λJ=>false) (λJ=>false) false (λJ J J J=>false) b)
   (λp=>gn b λj=>s.at p λo=>TO.rec (motive:=λJ=>Bool) (λds=>Jj j n (λa=>c a (.cons (.ref p) (.nat (bf j)))) ds) (λJ J=>false) (λJ J=>false) (λJ=>false) (λJ=>false) o)
   (λJ=>false) (λJ=>false) false (λJ J J J=>false) a) it
theorem fT{G:b6}{r:TV}{ds:List V}{j:Nat}{a b:TV}(h:r.dens G=ds.drop j)(e:r=.cons a b):ds[j]?=some (a.den G)/\b.dens G=ds.drop (j+1):=by
 subst e
 refine⟨?_,?_⟩
 ·rw[<-IE,<-h]; rfl
 ·rw[<-List.tail_drop,<-h]; rfl
theorem pq{G:b6}{r:TV}{ds:List V}{j:Nat}(h:r.dens G=ds.drop j)(e:r=.nil):ds[j]?=none:=by
 subst e
 rw[<-IE,<-h]; rfl
theorem xh{G:b6}{cur:tB}{j:Nat}{it:TV}{s:St}{n:Bool}{c:TV->TV->Bool}(ok:m3 G cur j it)(h:xj it s n c=true) :
  (cur j (s.den G) none/\n=true)∨∃v it',cur j (s.den G) (some (v.den G))/\m3 G cur (j+1) it'/\c v it'=true:=by
 cases ok with
 | list p j=>
  refine aM (d8 G (k:=λo=>TO.rec (motive:=λJ=>Bool) (λds=>Jj j n (λa=>c a (.cons (.ref p) (.nat (bf j)))) ds) (λJ J=>false) (λJ J=>false) (λJ=>false) (λJ=>false) o) h) λo ho h=>?_
  cases o with
  | list ds=>
   refine dn (GW G (c:=λa=>c a (.cons (.ref p) (.nat (bf j)))) h) (λhq=>eV hq λh1 h2=>?_) (λhq=>aM hq λv h1 h2=>?_)
   ·exact .inl ⟨(a0 _ (IsL.ref ho) h1),h2⟩
   ·exact .inr (bX v _ ⟨_,IsL.ref ho,h1⟩ (.list p (j+1)) h2)
  | _=>exact nt h
 | tup ds r j hr=>
  refine dn (bt (l:=r) (c:=λa r=>c a (.tup r)) h) (λhq=>eV hq λe h=>?_) (λhq=>oq hq λa b e h=>?_)
  ·exact .inl ⟨pq hr e,h⟩
  ·exact .inr (bX a _ ((fT hr e).1) (.tup ds b (j+1) (fT hr e).2) h)
 | rng m j=>
  have h:Bool.rec (motive:=λJ=>Bool) n (c (.nat j) (.cons (.nat (bf j)) (.rng m))) (bm (bf j) m)=true:=h
  cases e:bm (bf j) m with
  | true=>
   rw[e] at h
   exact .inr (bX _ _ (by have hlt:j<m:=N e; show some _=if j<m then _ else _; rw[if_pos hlt]; rfl) (.rng m (j+1)) h)
  | false=>
   rw[e] at h
   exact .inl ⟨by show none=if j<m then _ else _; rw[if_neg λq=>by rw[fP q] at e; cases e],h⟩
 | enum ds r j hr=>
  refine dn (bt (l:=r) (c:=λa r=>c (.tup (.cons (.nat j) (.cons a .nil))) (.cons (.nat (bf j)) (.tup r))) h) (λhq=>eV hq λe h=>?_) (λhq=>oq hq λa b e h=>?_)
  ·exact .inl ⟨by show none=(ds[j]?).map _; rw[pq hr e]; rfl,h⟩
  ·exact .inr (bX _ _ (by show some _=(ds[j]?).map _; rw[(fT hr e).1]; rfl) (.enum ds b (j+1) (fT hr e).2) h)
 | zip as bs r q j hr hq=>
  rcases bt (l:=r) (c:=λx r=>bW n (λy q=>c (.tup (.cons x (.cons y .nil))) (.cons (.tup r) (.tup q))) q) h with ⟨e,h⟩ | ⟨a,b,e,h⟩
  ·exact .inl ⟨by show none=_; rw[pq hr e],h⟩
  ·rcases bt (l:=q) (c:=λy q=>c (.tup (.cons a (.cons y .nil))) (.cons (.tup b) (.tup q))) h with ⟨e',h⟩ | ⟨a',b',e',h⟩
   ·exact .inl ⟨by show none=_; rw[(fT hr e).1,pq hq e'],h⟩
   ·exact .inr (bX _ _ (by show some _=_; rw[(fT hr e).1,(fT hq e').1]; rfl) (.zip as bs b b' (j+1) (fT hr e).2 (fT hq e').2) h)
noncomputable abbrev RI:=TV->St->(TV->St->Bool)->Bool
def MI(C:Cx)(G:b6)(sc:Scope)(n:Nat)(ns:List (Str×Bool))(t e:Expr)(r:RI):Prop:=
 ∀(W:En)(l:Loc)(env:TV)(s:St)(k:TV->St->Bool),W.sc=sc->W.calm=true->n<=W.d->bN G W l ns env->r env s k=true->jp C .none W t e l (s.den G) λcur σ=>∃it s',σ=s'.den G/\m3 G cur 0 it/\k it s'=true
section
variable{C:Cx}{G:b6}{sc:Scope}{n:Nat}{ns:List (Str×Bool)}
noncomputable def c7(a:RE):RI:=λenv s k=>a env s λv s=>
 TV.rec (motive:=λJ=>Bool) false false (λJ=>false) (λJ=>false) (λJ=>false) (λJ=>false) (λds J=>k (.tup ds) s)
  (λp=>s.at p λo=>TO.rec (motive:=λJ=>Bool) (λJ=>k (.cons (.ref p) (.nat 0)) s) (λJ J=>false) (λJ J=>false) (λJ=>false) (λJ=>false) o) (λJ=>false)
  (λm=>Bool.rec false (k (.cons (.nat 0) (.rng m)) s) (bm m 1000000)) false (λJ J J J=>false) v
theorem MI.any{t e:Expr}{a:RE}(ha:ME C G sc n ns e a):MI C G sc n ns t e (c7 a):=λW l env s k h1 h2 h3 h4 hr=>
 jp.any h2 (ha.go h1 h2 h3 h4 hr λv s' q=>by
  cases v with
  | tup ds=>exact .inr (.inl ⟨_,rfl,_,s',rfl,.tup _ ds 0 rfl,q⟩)
  | ref p=>
   refine aM (d8 G q) λo ho h=>?_
   cases o with
   | list ds=>exact .inl ⟨_,IsL.ref ho,_,s',rfl,.list p 0,h⟩
   | _=>exact nt h
  | rng m=>
   have q:Bool.rec (motive:=λJ=>Bool) false (k (.cons (.nat 0) (.rng m)) s') (bm m 1000000)=true:=q
   cases e:bm m 1000000 with
   | false=>rw[e] at q; exact nt q
   | true=>rw[e] at q; exact .inr (.inr ⟨m,rfl,ah (N e) (by decide),_,s',rfl,.rng m 0,q⟩)
  | _=>exact nt q)
noncomputable def JD(g:RG)(b:RS)(kn:KN)(kr:KT)(f:Nat):TV->TV->St->Bool:=
 Nat.rec (motive:=λJ=>TV->TV->St->Bool) (λJ J J=>false) (λJ ih it env s=>xj it s (kn env s) λv it=>g env s v λenv s=>b env s (λenv s=>ih it env s) kr) f
noncomputable def mA(i:RI)(g:RG)(b:RS)(f:Nat):RS:=λenv s kn kr=>i env s λit s=>JD g b kn kr f it env s
theorem Hm{t:Expr}{body:List Stmt}{rg:RG}{rb:RS}{W:En}{cur:tB}{kn:KN}{kr:KT}(hg:MG C G sc n ns t rg)(hb:MS C G sc n ns body rb)(h1:W.sc=sc)(h2:W.calm=true)(h3:n<=W.d)(f:Nat) :
  ∀(j:Nat)(it env:TV)(s:St)(l:Loc),m3 G cur j it->bN G W l ns env->JD rg rb kn kr f it env s=true->ye C .none W cur t body f j l (s.den G) (qk C G W ns kn kr):=by
 induction f with
 | zero=>exact λJ J J J J J J h=>nt h
 | succ f ih=>
  intro j it env s l hc h4 q
  have q:xj it s (kn env s) (λv it=>rg env s v λenv s=>rb env s (λenv s=>JD rg rb kn kr f it env s) kr)=true:=q
  refine dn (xh (G:=G) hc q) (λhq=>eV hq λe1 e2=>?_) (λhq=>bD hq λv it' e1 e2 e3=>?_)
  ·exact⟨none,e1,env,s,h4,rfl,e2⟩
  ·refine a0 (some (v.den G)) e1 (SG.mono (hg W l env s v _ h1 h2 h3 h4 e3) λl' σ' q=>?_)
   refine bD q λenv' s' h5 e q=>?_
   rw[e]
   refine SS.mono (hb W l' env' s' _ kr h1 h2 h3 h5 q) λfl l'' σ'' q=>?_
   cases fl with
   | next=>refine bD q λenv'' s'' h6 e q=>?_; rw[e]; exact ih (j+1) it' env'' s'' l'' e2 h6 q
   | ret d=>exact q
   | brk=>exact q.elim
   | cont=>exact q.elim
theorem MI.run{t e:Expr}{r:RI}(hi:MI C G sc n ns t e r){W:En}{l:Loc}{env:TV}{s:St}{k:TV->St->Bool}{QI:tB->aK->Prop}(h1:W.sc=sc)(h2:W.calm=true)(h3:n<=W.d)(h4:bN G W l ns env)(hr:r env s k=true)
  (q:∀cur it s',m3 G cur 0 it->k it s'=true->QI cur (s'.den G)):jp C .none W t e l (s.den G) QI:=λg A cenv L m st p=>
 wpAny_mono (hi W l env s _ h1 h2 h3 h4 hr g A cenv L m st p) (λx aQ hx=>wpAny_mono hx (λit b8 h=>by
  obtain⟨I,own,cur,S,g',σ',e1,e2,e3,e4,e5,e6,e7,it',s',e8,hc,hk⟩:=h
  exact⟨I,own,cur,S,g',σ',e1,e2,e3,e4,e5,e6,e7,e8▸q cur it' s' hc hk⟩) λJ J h=>h) λJ J h=>h
theorem M1.for{t e:Expr}{body:List Stmt} {pos}{ri:RI}{rg:RG}{rb:RS}(f:Nat)(hn:gJ e=true)(hi:MI C G sc n ns t e ri)(hg:MG C G sc n ns t rg)(hb:MS C G sc n ns body rb):M1 C G sc n ns (.For t e body [] pos) (mA ri rg rb f):=λW l env s kn kr h1 h2 h3 h4 hr=>
 Gq FT.none hn (hi.run h1 h2 h3 h4 hr λcur it s' hc q=>⟨f,Hm hg hb h1 h2 h3 f 0 it env s' l hc h4 q⟩)
end
section
variable{C:Cx}{G:b6}{sc:Scope}{n:Nat}{ns:List (Str×Bool)}
noncomputable def g6(i:Nat):RG:=λenv s v kn=>o9 i env λc=>q6 v (
 TV.rec (motive:=λJ=>Bool) false false (λJ=>false) (λJ=>false) (λJ=>false) (λJ=>false) (λJ J=>false)
  (λp=>s.at p λo=>TO.rec (motive:=λJ=>Bool) (λJ=>false) (λJ J=>false) (λJ J=>false) (λJ=>kn env (s.put (.cell v) p)) (λJ=>false) o) (λJ=>false) (λJ=>false) false (λJ J J J=>false) c)
theorem MG.cell{i:Nat}{x:Str} {pos}(hn:ns[i]?=some (x,true))(hk:sc.names.lookup x=some .cell):MG C G sc n ns (.Name x pos) (g6 i):=λW l env s v kn h1 h2 h3 h4 hr=>by
 refine aM (o8 h4 hn hr) λc hc h=>?_
 refine aM hc λp e1r hl=>?_
 subst e1r
 obtain⟨hv,h⟩:=j9 (G:=G) h
 refine aM (d8 G (k:=λo=>TO.rec (motive:=λJ=>Bool) (λJ=>false) (λJ J=>false) (λJ J=>false) (λJ=>kn env (s.put (.cell v) p)) (λJ=>false) o) h) λo ho h=>?_
 cases o with
 | cell u=>exact SG.cell ((h1)▸hk) hl ho (bX env _ h4 (by rw[dr]; show _=aK.set _ _ (O.cell (v.deno G)); rw[hv]) h)
 | _=>exact nt h
noncomputable abbrev FY:=TV->St->TV->KN->Bool
def jT(C:Cx)(G:b6)(sc:Scope)(n:Nat)(ns:List (Str×Bool))(ts:List Expr)(r:FY):Prop:=
 ∀(W:En)(l:Loc)(env:TV)(s:St)(v:TV)(kn:KN),W.sc=sc->W.calm=true->n<=W.d->bN G W l ns env->(v.dens G).length=ts.length->r env s v kn=true->
  KY C .none W ts (v.dens G) l (s.den G) λl' σ'=>∃env' s',bN G W l' ns env'/\σ'=s'.den G/\kn env' s'=true
noncomputable def nz:FY:=λenv s J kn=>kn env s
noncomputable def dQ(g:RG)(r:FY):FY:=λenv s v kn=>bW false (λa b=>g env s a λenv s=>r env s b kn) v
theorem jT.nil:jT C G sc n ns [] nz:=λW l env s v kn h1 h2 h3 h4 hl hr=>by
 have:v.dens G=[]:=fq hl
 simp only[this]
 exact bX env s h4 rfl hr
theorem jT.cons{t:Expr}{ts:List Expr}{g:RG}{r:FY}(hs:dW t=true)(hg:MG C G sc n ns t g)(hr':jT C G sc n ns ts r):jT C G sc n ns (t::ts) (dQ g r):=λW l env s v kn h1 h2 h3 h4 hl hr=>by
 rcases bt hr with ⟨_,h⟩ | ⟨a,b,rfl,h⟩
 ·exact nt h
 ·refine⟨hs,SG.mono (hg W l env s a _ h1 h2 h3 h4 h) λl' σ' hq=>bD hq λenv' s' h5 e q=>?_⟩
  subst e
  exact hr' W l' env' s' b kn h1 h2 h3 h5 (pG hl) q
noncomputable def sG(ts:List Expr):Bool:=ts.all dW
noncomputable def gQ(v:TV)(k:TV->Bool):Bool:=
 TV.rec (motive:=λJ=>Bool) false false (λJ=>false) (λJ=>false) (λJ=>false) (λJ=>false) (λds J=>k ds) (λJ=>false) (λJ=>false) (λJ=>false) false (λJ J J J=>false) v
theorem dl{v:TV}{k:TV->Bool}(h:gQ v k=true):∃ds,v=.tup ds/\k ds=true:=by
 cases v<;>first | exact⟨_,rfl,h⟩ | exact nt h
noncomputable def gTup(m:Nat)(r:FY):RG:=λenv s v kn=>gQ v λds=>EA m (r env s ds kn) ds
theorem MG.tup{ts:List Expr} {kd pos}{m:Nat}{r:FY}(hm:ts.length=m)(hs:sG ts=true)(h:jT C G sc n ns ts r):MG C G sc n ns (.Tuple ts kd pos) (gTup m r):=λW l env s v kn h1 h2 h3 h4 hr=>by
 refine aM (dl hr) λds e1r hr=>?_
 subst e1r
 obtain⟨hl,hr⟩:=rE G hr
 exact SG.tuple h2 (hm.trans hl.symm) (λt ht=>bu.mp hs t ht) (h W l env s ds kn h1 h2 h3 h4 (hl.trans hm.symm) hr)
theorem BP{C:Cx}{X:bc}{W:En}{l:Loc}{σ:aK}{QA:Loc->aK->Prop}{ts:List Expr}{k:Nat}{pos:PySem.Pos}{d:V}{ds:List V}(hc:W.calm=true)(hd:IsL σ d ds)(hlen:ts.length=ds.length)(hs:∀t∈ts,dW t=true)(h:KY C X W ts ds l σ QA):SG C X W (.Tuple ts k pos) l σ d QA:=λg A cenv L m s v p hv=>by
 refine lW (hd.at p.R hv) λa vs n e3r ho hvs=>?_
 subst e3r
 have hl:s.heap.IsList a vs.toArray:=du ho
 refine wpAny_bind (wpAny_standAt ?_)
 unfold unpack
 rw[ja hs,show(assignEach ts cenv).length=vs.toArray.size by rw[hO,hlen,hvs.length]; simp]
 refine wpAny_bind (wpAny_holding (kun_itemsOf (p.A.calm hc) hl λh' he=>?_))
 have hf:=p.R.free_size (ad s.heap.objs.size)
 have R':bV C g σ { s with heap:=h' }:=p.R.keepsT λb o hb e=>he b o (λq=>by
  subst q; rcases hb with hb | hb
  ·exact hb hf
  ·exact hb (p.R.h0_size (ad _))) e
 exact qM hs h (p.step (dA.refl g) R') hvs (eG.refl L g)
noncomputable def Iu(m:Nat)(r:FY):RG:=λenv s v kn=>dw v s λJ ds=>EA m (r env s ds kn) ds
theorem MG.list{ts:List Expr} {kd pos}{m:Nat}{r:FY}(hm:ts.length=m)(hs:sG ts=true)(h:jT C G sc n ns ts r):MG C G sc n ns (.Tuple ts kd pos) (Iu m r):=λW l env s v kn h1 h2 h3 h4 hr=>by
 obtain⟨p,ds,rfl,hp,hr⟩:=cG G hr
 refine eV (rE G hr) λhl hr=>?_
 exact BP h2 (IsL.ref hp) (hm.trans hl.symm) (λt ht=>bu.mp hs t ht) (h W l env s ds kn h1 h2 h3 h4 (hl.trans hm.symm) hr)
noncomputable def jh(m:Nat)(r:FY):RG:=λenv s v kn=>
 TV.rec (motive:=λJ=>Bool) false false (λJ=>false) (λJ=>false) (λJ=>false) (λJ=>false) (λds J=>EA m (r env s ds kn) ds) (λJ=>Iu m r env s v kn) (λJ=>false) (λJ=>false) false (λJ J J J=>false) v
theorem gz{ts:List Expr} {kd pos}{m:Nat}{r:FY}(hm:ts.length=m)(hs:sG ts=true)(h:jT C G sc n ns ts r):MG C G sc n ns (.Tuple ts kd pos) (jh m r):=λW l env s v kn h1 h2 h3 h4 hr=>by
 cases v with
 | tup ds=>exact MG.tup hm hs h W l env s (.tup ds) kn h1 h2 h3 h4 hr
 | ref p=>exact MG.list hm hs h W l env s (.ref p) kn h1 h2 h3 h4 hr
 | _=>exact nt hr
noncomputable def Id(is:List Nat):TV->TV->(TV->Bool)->Bool:=
 List.rec (motive:=λJ=>TV->TV->(TV->Bool)->Bool) (λenv v c=>bW (c env) (λJ J=>false) v) (λi J ih env v c=>bW false (λa b=>q6 a (ih (w5 i a env) b c)) v) is
theorem D1{W:En}{xs:List (Str×Nat)}:∀{env v:TV}{l:Loc}{c:TV->Bool},(∀x i,(x,i)∈xs->xA ns x i=true)->bN G W l ns env->Id (xs.map (·.2)) env v c=true->
  (v.dens G).length=xs.length/\∃env',bN G W (vA l (xs.map (·.1)) (v.dens G)) ns env'/\c env'=true:=by
 induction xs with
 | nil=>
  intro env v l c _ e h
  rcases bt h with ⟨rfl,h⟩ | ⟨_,_,_,h⟩
  ·exact⟨rfl,env,e,h⟩
  ·exact nt h
 | cons hd0 xs ih=>
  obtain⟨x,i⟩:=hd0
  intro env v l c hx e h
  rcases bt h with ⟨_,h⟩ | ⟨a,b,rfl,h⟩
  ·exact nt h
  ·obtain⟨ha,h⟩:=j9 (G:=G) h
   obtain⟨hl,env',he,hc⟩:=ih (l:=l.set x (a.den G)) (λy j hy=>hx y j (.tail _ hy)) (bN.set ha (hx x i (.head _)) e) h
   exact⟨congrArg bf hl,env',he,hc⟩
noncomputable def w9(v:TV):TV->TV:=
 TV.rec (motive:=λJ=>TV->TV) (λa=>a) (λa=>a) (λJ a=>a) (λJ a=>a) (λJ a=>a) (λJ a=>a) (λJ J a=>a) (λJ a=>a) (λJ a=>a) (λJ a=>a) (λa=>a) (λx J J ih a=>ih (.cons x a)) v
theorem rA(G:b6):∀(v a:TV),(w9 v a).dens G=(v.dens G).reverse++a.dens G
 | .cons x r,a=>by
  show(w9 r (.cons x a)).dens G=(x.den G::r.dens G).reverse++a.dens G
  rw[rA G r,iB,iF]; rfl
 | .unset,_ | .none,_ | .bool _,_ | .nat _,_ | .neg _,_ | .str _,_ | .tup _,_ | .ref _,_ | .val _,_ | .rng _,_ | .nil,_=>rfl
noncomputable def AW(is:List Nat)(r:RE):RS:=λenv s kn J=>r env s λv s=>gQ v λds=>Id is env (w9 ds .nil) λenv=>kn env s
theorem M1.swap{ts:List Expr}{k:Nat} {tp pos}{e:Expr}{xs:List (Str×Nat)}{r:RE}(hn:jk e=true)(hw:swappedStores [.Tuple ts k tp] e (lr sc)=pure (some (xs.map (·.1)).reverse))(hx:(xs.all λx=>sc.names.lookup x.1==some .local&&xA ns x.1 x.2)=true)
  (h:ME C G sc n ns e r):M1 C G sc n ns (.Assign [.Tuple ts k tp] e pos) (AW (xs.map (·.2)) r):=λW l env s kn kr h1 h2 h3 h4 hr=>
 tT (ns:=(xs.map (·.1)).reverse) h2 hn ((h1)▸hw) (by
  rw[List.all_reverse,List.all_map,h1,bu]
  intro x hx'
  have:=bu.mp hx x hx'
  rw[aZ] at this
  exact this.1) (SE.mono (h W l env s _ h1 h2 h3 h4 hr) λd σ hq=>bD hq λv s' e1 e2 q=>by
  refine aM (dl q) λds e1r q=>?_
  subst e1r
  obtain⟨hl,env',he,q⟩:=D1 (G:=G) (W:=W) (l:=l) (xs:=xs) (λx i hx'=>by
   have:=bu.mp hx (x,i) hx'
   rw[aZ] at this
   exact this.2) h4 q
  rw[rA] at hl he
  rw[show TV.dens G .nil=[] from rfl,dq] at hl he
  refine⟨ds.dens G,e1,?_,env',s',?_,e2,q⟩
  ·rw[jY] at hl ⊢; rw[hl,ar]
  ·rw[List.reverse_reverse]; exact he)
end
noncomputable def freeIn(names:List (Str×NameKind))(x:Str):Bool:=names.any λy=>y.1==x&&y.2==.free
theorem uf{α:Type}{cells:List (Str×α)}{x:Str}{names:List (Str×NameKind)}:∀{acc:List (Str×α)},(∀y∈names,y.2=.free->(cells.lookup y.1).isSome=true)->
  (f6 cells names acc).lookup x=if freeIn names x=true then cells.lookup x else acc.lookup x:=by
 induction names with
 | nil=>exact @λacc J=>rfl
 | cons hd0 r ih=>
  obtain⟨n,k⟩:=hd0
  intro acc h
  dsimp only[f6]
  rw[ih λy hy=>h y (.tail _ hy)]
  have hf:freeIn ((n,k)::r) x=((n==x&&k==.free)||freeIn r x):=rfl
  rw[hf]
  by_cases q:freeIn r x=true
  ·rw[if_pos q,q,Bool.or_true,if_pos rfl]
  ·rw[if_neg q]
   have q':freeIn r x=false:=by simpa using q
   rw[q',yp]
   by_cases hk:(k==NameKind.free)=true
   ·rw[if_pos hk,hk,Bool.and_true]
    refine ik (dG.mp (h (n,k) (.head _) (eq_of_beq hk))) λa ha=>?_
    rw[ha]
    show List.lookup x ((n,a)::acc)=_
    rw[jf]
    by_cases e:(n==x)=true
    ·have e':=eq_of_beq e
     subst e'
     rw[if_pos e,beq_self_eq_true,ha]
    ·have:(x==n)=false:=by rw[BEq.comm]; simpa using e
     rw[if_neg e,this]
   ·rw[if_neg hk]
    have:(k==NameKind.free)=false:=by simpa using hk
    rw[this,J2,if_neg bM]
structure kQ(ns:List (Str×Bool))(scope:Scope)(fs:List (Str×Nat)):Prop where
 cell:pv scope.names=true
 loc:pf scope.names=true
 kind:scope.kind=.function
 frees:∀y∈scope.names,y.2=.free->∃i:Nat,ns[i]?=some (y.1,true)
 fs:∀(x:Str)(i:Nat),(x,i)∈fs->ns[i]?=some (x,true)/\freeIn scope.names x=true
noncomputable def Bl(ns:List (Str×Bool))(scope:Scope)(fs:List (Str×Nat)):Bool:=
 pv scope.names&&pf scope.names&&(scope.names.all λy=>y.2 != .free||fs.any λz=>z.1==y.1)&&fs.all λz=>ns[z.2]?==some (z.1,true)&&freeIn scope.names z.1
theorem kQ.of{ns:List (Str×Bool)}{scope:Scope}{fs:List (Str×Nat)}(h:Bl ns scope fs=true)(hk:scope.kind=.function):kQ ns scope fs:=by
 unfold Bl at h
 simp only[aZ] at h
 obtain⟨⟨⟨h1,h2⟩,h3⟩,h4⟩:=h
 have H:∀x i,(x,i)∈fs->ns[i]?=some (x,true)/\freeIn scope.names x=true:=λx i hx=>by
  have:=bu.mp h4 _ hx
  rw[aZ] at this
  exact⟨by simpa using this.1,this.2⟩
 refine⟨h1,h2,hk,λy hy e=>?_,H⟩
 have:=bu.mp h3 y hy
 rw[e] at this
 refine aM (eu.mp this) λz hz q=>?_
 exact⟨z.2,by have:=(H z.1 z.2 hz).1; rw[eq_of_beq q] at this; exact this⟩
theorem bN.cellAt{G:b6}{W:En}{l:Loc}{x:Str}:∀{ns:List (Str×Bool)}{env:TV}{i:Nat},bN G W l ns env->ns[i]?=some (x,true)->∃p:Pos,(env.dens G)[i]?=some (.ref p.num)/\W.cells.lookup x=some p.num:=by
 intro ns
 induction ns with
 | nil=>exact @λJ J J hn=>by cases hn
 | cons p ns ih=>
  intro env i e hn
  refine za e.isCons λa r e'=>?_
  subst e'
  cases i with
  | zero=>
   cases aw hn
   refine aM e.1 λp e1r h=>?_
   subst e1r
   exact a0 p rfl h
  | succ i=>
   obtain⟨y,q⟩:=p
   cases q<;>exact ih (env:=r) e.2 hn
noncomputable def FF(fs:List Nat)(u env:TV):(TV->Bool)->Bool:=
 List.rec (motive:=λJ=>(TV->Bool)->Bool) (λc=>c u) (λi J ih c=>o9 i env λv=>ih λr=>c (.cons v r)) fs
theorem FE{G:b6}{W W':En}{l l':Loc}{ns rest:List (Str×Bool)}{u env:TV}(he:bN G W l ns env)(hu:bN G W' l' rest u){fs:List (Str×Nat)}:∀{c:TV->Bool},(∀x i,(x,i)∈fs->ns[i]?=some (x,true))->(∀x i,(x,i)∈fs->W'.cells.lookup x=W.cells.lookup x)->
  FF (fs.map (·.2)) u env c=true->∃row,bN G W' l' (fs.map (λx=>(x.1,true))++rest) row/\c row=true:=by
 induction fs with
 | nil=>exact @λc J J h=>(a0 u hu h)
 | cons hd0 fs ih=>
  obtain⟨x,i⟩:=hd0
  intro c h1 h2 h
  refine aM (o8 he (h1 x i (.head _)) (c:=λv=>FF (fs.map λz:Str×Nat=>z.2) u env λr=>c (.cons v r)) h) λv hv h=>?_
  refine aM hv λp e1r hp=>?_
  subst e1r
  refine aM (ih (c:=λr=>c (.cons (.ref p) r)) (λy j hy=>h1 y j (.tail _ hy)) (λy j hy=>h2 y j (.tail _ hy)) h) λrow e hc=>?_
  exact a0 (.cons (.ref p) row) ⟨⟨p,rfl,(h2 x i (.head _)).trans hp⟩,e⟩ hc
theorem kQ.cells{G:b6}{W:En}{l:Loc}{ns:List (Str×Bool)}{env:TV}{scope:Scope}{fs:List (Str×Nat)}(ok:kQ ns scope fs)(he:bN G W l ns env):sT W.cells scope.names=true/\∀x,freeIn scope.names x=true->(ex scope W).cells.lookup x=W.cells.lookup x:=by
 have H:∀y∈scope.names,y.2=.free->(W.cells.lookup y.1).isSome=true:=λy hy e=>by
  refine ik (ok.frees y hy e) λi hi=>?_
  refine aM (he.cellAt hi) λp J hp=>?_
  rw[hp]; rfl
 refine⟨bu.mpr λy hy=>?_,λx hx=>?_⟩
 ·by_cases e:y.2=.free
  ·simp[H y hy e]
  ·simp[e]
 ·show(f6 W.cells scope.names []).lookup x=_
  rw[uf H,if_pos hx]
section
variable{C:Cx}{G:b6}{sc:Scope}{n:Nat}{ns:List (Str×Bool)}
def iP(C:Cx)(G:b6)(sc:Scope)(n:Nat)(ns:List (Str×Bool))(es:List Expr)(r:RT):Prop:=
 ∀(W:En)(l:Loc)(env:TV)(s:St)(k:Bool->St->Bool),W.sc=sc->W.calm=true->n<=W.d->bN G W l ns env->r env s k=true->FX C .none W es l (s.den G) (AA G k)
theorem iP.nil:iP C G sc n ns [] (tK true):=λJ J J s J J J J J h=>(a0 s rfl h)
theorem gV{e:Expr}{r:RT}(h:MT C G sc n ns e r):iP C G sc n ns [e] r:=λW l env s k h1 h2 h3 h4 hr=>ST.mono (h W l env s k h1 h2 h3 h4 hr) λb σ q=>by
 cases b with
 | true=>exact q
 | false=>exact q
noncomputable abbrev KB:=TV->Nat->TV->St->Bool
noncomputable abbrev RB:=TV->Nat->TV->St->KB->Bool
def CZ(C:Cx)(G:b6)(sc:Scope)(n:Nat)(ns:List (Str×Bool))(B:En->kG)(r:RB):Prop:=
 ∀(W:En)(l:Loc)(env:TV)(s:St)(acc:TV)(c:Nat)(K:KB)(Q:uQ),W.sc=sc->W.calm=true->n<=W.d->bN G W l ns env->(acc.dens G).length=c->r acc c env s K=true->
  (∀acc' c' env' s' l',bN G W l' ns env'->(acc'.dens G).length=c'->K acc' c' env' s'=true->Q (acc'.dens G).reverse l' (s'.den G))->B W (acc.dens G).reverse l (s.den G) Q
noncomputable def cA(e:RE):RB:=λacc c env s K=>cW (bm c 999999) (e env s λv s=>K (.cons v acc) (bf c) env s)
theorem CZ.emit{e:Expr}{r:RE}(h:ME C G sc n ns e r):CZ C G sc n ns (λW=>tD C W e) (cA r):=λW l env s acc c K Q h1 h2 h3 h4 hc hr hK=>by
 obtain⟨hb,hr⟩:=bO hr
 refine h.go h1 h2 h3 h4 hr λv s' q=>?_
 refine⟨by rw[jY,hc]; exact ah (N hb) (by simp),?_⟩
 have:=hK (.cons v acc) (c+1) env s' l h4 (congrArg bf hc) q
 rwa [show(TV.cons v acc).dens G=v.den G::acc.dens G from rfl,iB] at this
noncomputable def x8(g:RG)(t:RT)(b:RB)(K:KB)(f:Nat):TV->TV->Nat->TV->St->Bool:=
 Nat.rec (motive:=λJ=>TV->TV->Nat->TV->St->Bool) (λJ J J J J=>false) (λJ ih it acc c env s=>xj it s (K acc c env s) λv it=>g env s v λenv s=>t env s λok s=>Bool.rec (ih it acc c env s) (b acc c env s λacc c env s=>ih it acc c env s) ok) f
noncomputable def uh(i:RI)(g:RG)(t:RT)(b:RB)(f:Nat):RB:=λacc c env s K=>i env s λit s=>x8 g t b K f it acc c env s
theorem x7{t:Expr}{ifs:List Expr}{B:En->kG}{rg:RG}{rt:RT}{rb:RB}{K:KB}{Q:uQ}{W:En}{cur:tB}(hg:MG C G sc n ns t rg)(ht:iP C G sc n ns ifs rt)(hb:CZ C G sc n ns B rb)(h1:W.sc=sc)(h2:W.calm=true)(h3:n<=W.d)
  (hK:∀acc' c' env' s' l',bN G W l' ns env'->(acc'.dens G).length=c'->K acc' c' env' s'=true->Q (acc'.dens G).reverse l' (s'.den G)) :
  ∀(f j:Nat)(it acc:TV)(c:Nat)(env:TV)(s:St)(l:Loc),m3 G cur j it->bN G W l ns env->(acc.dens G).length=c->x8 rg rt rb K f it acc c env s=true->jS C W cur t ifs (B W) f j (acc.dens G).reverse l (s.den G) Q:=by
 intro f
 induction f with
 | zero=>intro j it acc c env s l _ _ _ h; exact nt h
 | succ f ih=>
  intro j it acc c env s l hc h4 ha q
  have q:xj it s (K acc c env s) (λv it=>rg env s v λenv s=>rt env s λok s=>Bool.rec (motive:=λJ=>Bool) (x8 rg rt rb K f it acc c env s) (rb acc c env s λacc c env s=>x8 rg rt rb K f it acc c env s) ok)=true:=q
  refine dn (xh (G:=G) hc q) (λhq=>eV hq λh1' h2'=>?_) (λhq=>bD hq λv it' h1' h2' h3'=>?_)
  ·exact a0 none h1' (hK acc c env s l h4 ha h2')
  ·refine a0 (some (v.den G)) h1' (SG.mono (hg W l env s v _ h1 h2 h3 h4 h3') λl' σ' hq=>bD hq λenv' s' h5 e q=>?_)
   rw[e]
   refine FX.mono (λb σ'' hq=>aM hq λs'' e q=>?_) (ht W l' env' s' _ h1 h2 h3 h5 q)
   rw[e]
   cases b with
   | false=>exact ih (j+1) it' acc c env' s'' l' h2' h5 ha q
   | true=>exact hb W l' env' s'' acc c _ _ h1 h2 h3 h5 ha q λacc' c' env'' s3 l'' h6 ha' q'=>ih (j+1) it' acc' c' env'' s3 l'' h2' h6 ha' q'
theorem CZ.for{t e:Expr}{ifs:List Expr}{B:En->kG}{ri:RI}{rg:RG}{rt:RT}{rb:RB}(f:Nat)(hi:MI C G sc n ns t e ri)(hg:MG C G sc n ns t rg)(ht:iP C G sc n ns ifs rt)(hb:CZ C G sc n ns B rb):CZ C G sc n ns (λW=>F3 C W t e ifs (B W)) (uh ri rg rt rb f):=λW l env s acc c K Q h1 h2 h3 h4 hc hr hK=>
 hi.run h1 h2 h3 h4 hr λcur it s' hcu hk=>⟨f,x7 hg ht hb h1 h2 h3 hK f 0 it acc c env s' l hcu h4 hc hk⟩
noncomputable def y4(i:RI)(fs:List Nat)(u:Nat)(g:RG)(t:RT)(b:RB)(f:Nat)(env:TV)(s:St)(k:Pos->St->Bool):Bool:=
 i env s λit s=>FF fs (nT u) env λrow=>x8 g t b (λacc J J s=>s.push (.list (w9 acc .nil)) k) f it .nil 0 row s
theorem nf{t e:Expr}{ifs:List Expr}{scope:Scope}{fs:List (Str×Nat)}{rest:List (Str×Bool)}{B:En->kG}{ri:RI}{rg:RG}{rt:RT}{rb:RB}{f:Nat}{W:En}{l:Loc}{env:TV}{s:St}{k:Pos->St->Bool}{Q:List V->aK->Prop}(ok:kQ ns scope fs)(hrest:rest.all (λx=>!x.2)=true)
  (hi:MI C G sc n ns t e ri)(hg:MG C G (cz scope sc) n (fs.map (λx=>(x.1,true))++rest) t rg)(ht:iP C G (cz scope sc) n (fs.map (λx=>(x.1,true))++rest) ifs rt)(hb:CZ C G (cz scope sc) n (fs.map (λx=>(x.1,true))++rest) B rb)
  (h1:W.sc=sc)(h2:W.calm=true)(h3:n<=W.d)(h4:bN G W l ns env)(hr:y4 ri (fs.map (·.2)) rest.length rg rt rb f env s k=true)
  (hQ:∀(acc:List V)(p:Pos)(s s':St),(s.den G).nx=p.num->s'.den G=(s.den G).push (.list acc)->k p s'=true->Q acc (s.den G)) :
  jp C .none W t e l (s.den G) λcur aA=>∃fu,jS C (ex scope W) cur t ifs (B (ex scope W)) fu 0 [] (λJ=>ax) aA λacc J aT=>Q acc aT:=
 hi.run h1 h2 h3 h4 hr λcur it s' hcu hk=>by
  obtain⟨_,hcell⟩:=ok.cells h4
  refine aM (FE (G:=G) (W':=ex scope W) (l':=λJ=>ax) h4 (rest:=rest) (pS λx b hx=>⟨by have:=bu.mp hrest _ hx; simpa using this,rfl⟩) (λx i hx=>(ok.fs x i hx).1) (λx i hx=>hcell x (ok.fs x i hx).2) hk) λrow he hk=>?_
  refine⟨f,x7 (W:=ex scope W) (Q:=λacc J aT=>Q acc aT) (acc:=.nil) hg ht hb (by rw[<-h1]; rfl) h2 h3 (λacc' c' env' s'' l' J J q=>?_) f 0 it 0 row s' _ hcu he rfl hk⟩
  refine bD (cy G q) λp s3 hp hs3 q=>?_
  refine hQ _ p s'' s3 hp.symm ?_ q
  rw[hs3]
  show _=aK.push _ (O.list _)
  rw[show TO.den G (.list (w9 acc' .nil))=O.list ((w9 acc' .nil).dens G) from rfl,rA,show TV.dens G .nil=[] from rfl,dq]
noncomputable def dS(i:RI)(fs:List Nat)(u:Nat)(g:RG)(t:RT)(b:RB)(f:Nat):RE:=λenv s k=>y4 i fs u g t b f env s λp s=>k (.ref p) s
theorem pt{W:En}{l:Loc}{env:TV}{scope:Scope}{fs:List (Str×Nat)}{e:Expr}(ok:kQ ns scope fs)(he:bN G W l ns env)(hn:gJ e=true):om W e scope:=⟨ok.cell,ok.loc,(ok.cells he).1,ok.kind,hn⟩
theorem ME.comp1{t e elt:Expr}{ifs:List Expr}{scope:Scope} {pos}{fs:List (Str×Nat)}{rest:List (Str×Bool)}{ri:RI}{rg:RG}{rt:RT}{re:RE}(f:Nat)(ok:kQ ns scope fs)(hrest:rest.all (λx=>!x.2)=true)(hn:gJ e=true)
  (hi:MI C G sc n ns t e ri)(hg:MG C G (cz scope sc) n (fs.map (λx=>(x.1,true))++rest) t rg)(ht:iP C G (cz scope sc) n (fs.map (λx=>(x.1,true))++rest) ifs rt)(hb:ME C G (cz scope sc) n (fs.map (λx=>(x.1,true))++rest) elt re) :
  ME C G sc n ns (.ListComp elt [⟨t,e,ifs,0⟩] scope pos) (dS ri (fs.map (·.2)) rest.length rg rt (cA re) f):=λW l env s k h1 h2 h3 h4 hr=>
 vb (pt ok h4 hn) (nf (Q:=λacc aT=>Tells G k (.ref aT.nx) (aT.push (.list acc))) ok hrest hi hg ht (CZ.emit hb) h1 h2 h3 h4 hr λacc p s s' hp hs q=>(bX (.ref p) s' (by rw[hp]; rfl) hs.symm q))
theorem ME.comp2{t e t2 e2 elt:Expr}{ifs ifs2:List Expr}{scope:Scope} {pos}{fs:List (Str×Nat)}{rest:List (Str×Bool)}{ri ri2:RI}{rg rg2:RG}{rt rt2:RT}{re:RE}(f f2:Nat)(ok:kQ ns scope fs)(hrest:rest.all (λx=>!x.2)=true)(hn:gJ e=true)(hn2:gJ e2=true)
  (hi:MI C G sc n ns t e ri)(hg:MG C G (cz scope sc) n (fs.map (λx=>(x.1,true))++rest) t rg)(ht:iP C G (cz scope sc) n (fs.map (λx=>(x.1,true))++rest) ifs rt)
  (hi2:MI C G (cz scope sc) n (fs.map (λx=>(x.1,true))++rest) t2 e2 ri2)(hg2:MG C G (cz scope sc) n (fs.map (λx=>(x.1,true))++rest) t2 rg2)(ht2:iP C G (cz scope sc) n (fs.map (λx=>(x.1,true))++rest) ifs2 rt2)(hb:ME C G (cz scope sc) n (fs.map (λx=>(x.1,true))++rest) elt re) :
  ME C G sc n ns (.ListComp elt [⟨t,e,ifs,0⟩,⟨t2,e2,ifs2,0⟩] scope pos) (dS ri (fs.map (·.2)) rest.length rg rt (uh ri2 rg2 rt2 (cA re) f2) f):=λW l env s k h1 h2 h3 h4 hr=>
 va (pt ok h4 hn) hn2 (nf (Q:=λacc aT=>Tells G k (.ref aT.nx) (aT.push (.list acc))) ok hrest hi hg ht (CZ.for f2 hi2 hg2 ht2 (CZ.emit hb)) h1 h2 h3 h4 hr λacc p s s' hp hs q=>(bX (.ref p) s' (by rw[hp]; rfl) hs.symm q))
noncomputable def lj(j:Nat)(i:RI)(fs:List Nat)(u:Nat)(g:RG)(t:RT)(b:RB)(f:Nat):RS:=λenv s kn J=>y4 i fs u g t b f env s λp s=>kn (w5 j (.ref p) env) s
theorem M1.comp1{t e elt:Expr}{y:Str}{py:PySem.Pos}{ifs:List Expr}{scope:Scope} {pos spos}{fs:List (Str×Nat)}{rest:List (Str×Bool)}{ri:RI}{rg:RG}{rt:RT}{re:RE}{j:Nat}(f:Nat)(ok:kQ ns scope fs)(hrest:rest.all (λx=>!x.2)=true)(hn:gJ e=true)
  (hy:sc.names.lookup y=some .local)(hj:xA ns y j=true)(hsw:swapsWith (.ListComp elt [⟨t,e,ifs,0⟩] scope pos) (some (.Name y py)) spos.line (lr sc)=pure true)
  (hi:MI C G sc n ns t e ri)(hg:MG C G (cz scope sc) n (fs.map (λx=>(x.1,true))++rest) t rg)(ht:iP C G (cz scope sc) n (fs.map (λx=>(x.1,true))++rest) ifs rt)(hb:ME C G (cz scope sc) n (fs.map (λx=>(x.1,true))++rest) elt re) :
  M1 C G sc n ns (.Assign [.Name y py] (.ListComp elt [⟨t,e,ifs,0⟩] scope pos) spos) (lj j ri (fs.map (·.2)) rest.length rg rt (cA re) f):=λW l env s kn kr h1 h2 h3 h4 hr=>
 mq (pt ok h4 hn) ((h1)▸hy) ((h1)▸hsw) (nf (Q:=λacc aT=>qk C G W ns kn kr .next (l.set y (.ref aT.nx)) (aT.push (.list acc))) ok hrest hi hg ht (CZ.emit hb) h1 h2 h3 h4 hr λacc p s s' hp hs q=>(bX (w5 j (.ref p) env) s' (by rw[hp]; exact bN.set (v:=.ref p) rfl hj h4) hs.symm q))
theorem M1.comp2{t e t2 e2 elt:Expr}{y:Str}{py:PySem.Pos}{ifs ifs2:List Expr}{scope:Scope} {pos spos}{fs:List (Str×Nat)}{rest:List (Str×Bool)}{ri ri2:RI}{rg rg2:RG}{rt rt2:RT}{re:RE}{j:Nat}(f f2:Nat)(ok:kQ ns scope fs)(hrest:rest.all (λx=>!x.2)=true)(hn:gJ e=true)(hn2:gJ e2=true)
  (hy:sc.names.lookup y=some .local)(hj:xA ns y j=true)(hsw:swapsWith (.ListComp elt [⟨t,e,ifs,0⟩,⟨t2,e2,ifs2,0⟩] scope pos) (some (.Name y py)) spos.line (lr sc)=pure true)
  (hi:MI C G sc n ns t e ri)(hg:MG C G (cz scope sc) n (fs.map (λx=>(x.1,true))++rest) t rg)(ht:iP C G (cz scope sc) n (fs.map (λx=>(x.1,true))++rest) ifs rt)
  (hi2:MI C G (cz scope sc) n (fs.map (λx=>(x.1,true))++rest) t2 e2 ri2)(hg2:MG C G (cz scope sc) n (fs.map (λx=>(x.1,true))++rest) t2 rg2)(ht2:iP C G (cz scope sc) n (fs.map (λx=>(x.1,true))++rest) ifs2 rt2)(hb:ME C G (cz scope sc) n (fs.map (λx=>(x.1,true))++rest) elt re) :
  M1 C G sc n ns (.Assign [.Name y py] (.ListComp elt [⟨t,e,ifs,0⟩,⟨t2,e2,ifs2,0⟩] scope pos) spos) (lj j ri (fs.map (·.2)) rest.length rg rt (uh ri2 rg2 rt2 (cA re) f2) f):=λW l env s kn kr h1 h2 h3 h4 hr=>
 rZ (pt ok h4 hn) hn2 ((h1)▸hy) ((h1)▸hsw) (nf (Q:=λacc aT=>qk C G W ns kn kr .next (l.set y (.ref aT.nx)) (aT.push (.list acc))) ok hrest hi hg ht (CZ.for f2 hi2 hg2 ht2 (CZ.emit hb)) h1 h2 h3 h4 hr λacc p s s' hp hs q=>(bX (w5 j (.ref p) env) s' (by rw[hp]; exact bN.set (v:=.ref p) rfl hj h4) hs.symm q))
end
noncomputable def ui(v w:TV):TV:=TV.rec (motive:=λJ=>TV) w w (λJ=>w) (λJ=>w) (λJ=>w) (λJ=>w) (λJ J=>w) (λJ=>w) (λJ=>w) (λJ=>w) w (λa J J ih=>.cons a ih) v
theorem nq(G:b6):∀(v w:TV),(ui v w).dens G=v.dens G++w.dens G
 | .cons a r,w=>congrArg (a.den G::·) (nq G r w)
 | .unset,_ | .none,_ | .bool _,_ | .nat _,_ | .neg _,_ | .str _,_ | .tup _,_ | .ref _,_ | .val _,_ | .rng _,_ | .nil,_=>rfl
noncomputable def jK(v:TV):Nat:=TV.rec (motive:=λJ=>Nat) 0 0 (λJ=>0) (λJ=>0) (λJ=>0) (λJ=>0) (λJ J=>0) (λJ=>0) (λJ=>0) (λJ=>0) 0 (λJ J J ih=>bf ih) v
theorem pg(G:b6):∀v:TV,(v.dens G).length=jK v
 | .cons _ r=>congrArg bf (pg G r)
 | .unset | .none | .bool _ | .nat _ | .neg _ | .str _ | .tup _ | .ref _ | .val _ | .rng _ | .nil=>rfl
noncomputable def eR(v:TV)(b:Bool):Bool:=cW (bm (jK v) 100000) b
theorem dt{G:b6}{v:TV}{b:Bool}(h:eR v b=true):(v.dens G).length<=100000/\b=true:=by
 refine eV (bO h) λh1 h2=>?_
 exact⟨by rw[pg]; exact N h1,h2⟩
noncomputable def Bi(k:Nat)(v:TV):TV:=Nat.rec (motive:=λJ=>TV->TV) (λv=>v) (λJ ih v=>TV.rec (motive:=λJ=>TV) .nil .nil (λJ=>.nil) (λJ=>.nil) (λJ=>.nil) (λJ=>.nil) (λJ J=>.nil) (λJ=>.nil) (λJ=>.nil) (λJ=>.nil) .nil (λJ r J J=>ih r) v) k v
theorem s6(G:b6):∀(k:Nat)(v:TV),(Bi k v).dens G=(v.dens G).drop k
 | 0,_=>rfl
 | k+1,.cons _ r=>s6 G k r
 | _+1,.unset | _+1,.none | _+1,.bool _ | _+1,.nat _ | _+1,.neg _ | _+1,.str _ | _+1,.tup _ | _+1,.ref _ | _+1,.val _ | _+1,.rng _ | _+1,.nil=>rfl
noncomputable def Ic(k:Nat)(v:TV):TV:=Nat.rec (motive:=λJ=>TV->TV) (λJ=>.nil) (λJ ih v=>TV.rec (motive:=λJ=>TV) .nil .nil (λJ=>.nil) (λJ=>.nil) (λJ=>.nil) (λJ=>.nil) (λJ J=>.nil) (λJ=>.nil) (λJ=>.nil) (λJ=>.nil) .nil (λa r J J=>.cons a (ih r)) v) k v
theorem wW(G:b6):∀(k:Nat)(v:TV),(Ic k v).dens G=(v.dens G).take k
 | 0,_=>by rfl
 | k+1,.cons a r=>congrArg (a.den G::·) (wW G k r)
 | _+1,.unset | _+1,.none | _+1,.bool _ | _+1,.nat _ | _+1,.neg _ | _+1,.str _ | _+1,.tup _ | _+1,.ref _ | _+1,.val _ | _+1,.rng _ | _+1,.nil=>rfl
noncomputable def Ku(i:Nat)(x:TV):TV->TV:=
 Nat.rec (motive:=λJ=>TV->TV)
  (λl=>TV.rec (motive:=λJ=>TV) (.cons x .nil) (.cons x .nil) (λJ=>(.cons x .nil)) (λJ=>(.cons x .nil)) (λJ=>(.cons x .nil)) (λJ=>(.cons x .nil)) (λJ J=>(.cons x .nil)) (λJ=>(.cons x .nil)) (λJ=>(.cons x .nil)) (λJ=>(.cons x .nil)) (.cons x .nil) (λJ r J J=>.cons x r) l)
  (λJ ih l=>TV.rec (motive:=λJ=>TV) .nil .nil (λJ=>.nil) (λJ=>.nil) (λJ=>.nil) (λJ=>.nil) (λJ J=>.nil) (λJ=>.nil) (λJ=>.nil) (λJ=>.nil) .nil (λa r J J=>.cons a (ih r)) l) i
theorem Ed{y:Str}(G:b6){x:TV}:∀{ns:List Str}{v:TV}{i:Nat},xN ns y i=true->i<=jK v->Cd y (x.den G) (ns.zip (v.dens G))=ns.zip ((Ku i x v).dens G):=by
 intro ns
 induction ns with
 | nil=>exact @λJ i h=>by cases i<;>cases h
 | cons z ns ih=>
  intro v i h hl
  cases i with
  | zero=>
   have e:=eq_of_beq (show(z==y)=true from h)
   rw[<-e]
   cases v with
   | cons a r=>exact if_pos (beq_self_eq_true _)
   | _=>exact congrArg ((z,x.den G)::·) (qp).symm
  | succ i=>
   have h:=dZ h
   cases v with
   | cons a r=>exact(if_neg (by rw[qF h.1]; exact bM)).trans (congrArg ((z,a.den G)::·) (ih (v:=r) h.2 (fF hl)))
   | _=>exact absurd hl (Db _)
section
variable{C:Cx}{G:b6}{sc:Scope}{n:Nat}{ns:List (Str×Bool)}
structure cX(C:Cx)(G:b6)(c:Nat)(name:Str)(i:Nat):Prop where
 cls:lw C.K c
 taker:takerIn C.K c name=some ax
 pos:xN (G.flds c) name i=true
 few:(G.flds c).length.ble 100=true
noncomputable def gK(c i:Nat)(o:RE):RG:=λenv s v kn=>o env s λw s=>og c w s λp ds=>cW (bm i (jK ds)) (q6 v (kn env (s.put (.inst c (Ku i v ds)) p)))
theorem MG.fld{c i:Nat}{o:Expr}{name:Str} {pos}{ro:RE}(f:cX C G c name i)(ho:ME C G sc n ns o ro):MG C G sc n ns (.Attribute o name pos) (gK c i ro):=λW l env s v kn h1 h2 h3 h4 hr=>
 DD (ho.go h1 h2 h3 h4 hr λw s' q=>by
  obtain⟨p,ds,rfl,hp,q⟩:=qh G q
  obtain⟨hl,q⟩:=bO q
  obtain⟨_,q⟩:=j9 (G:=G) q
  refine⟨p.num,c,_,rfl,hp,f.cls,f.taker,?_,env,_,h4,?_,q⟩
  ·rw[ID]
   exact Z (hZ _ _) (Z (N f.few) (by simp))
  ·rw[dr,Ed G f.pos (N hl)]; rfl)
noncomputable def na(v:TV)(nat:Nat->Bool)(neg:Nat->Bool)(str:Nat->Bool)(tup:TV->Bool)(ref:Pos->Bool):Bool:=
 TV.rec (motive:=λJ=>Bool) false false (λJ=>false) nat neg str (λds J=>tup ds) ref (λJ=>false) (λJ=>false) false (λJ J J J=>false) v
theorem vx{v:TV}{a b c:Nat->Bool}{d:TV->Bool}{e:Pos->Bool}(h:na v a b c d e=true):(∃n,v=.nat n/\a n=true)∨(∃n,v=.neg n/\b n=true)∨(∃n,v=.str n/\c n=true)∨(∃ds,v=.tup ds/\d ds=true)∨∃p,v=.ref p/\e p=true:=by
 cases v<;>first | exact .inl ⟨_,rfl,h⟩ | exact .inr (.inl (a0 _ rfl h)) | exact .inr (.inr (.inl (a0 _ rfl h))) | exact .inr (.inr (.inr (.inl (a0 _ rfl h)))) | exact .inr (.inr (.inr (.inr (a0 _ rfl h)))) | exact nt h
noncomputable def il:TV->TV->St->KT->Bool:=λx y s k=>na x
 (λa=>gn y λb=>k (.nat (Nat.add a b)) s) (λJ=>false) (λJ=>false)
 (λds=>gQ y λes=>eR ds (eR es (k (.tup (ui ds es)) s)))
 (λJ=>dw x s λJ ds=>dw y s λJ es=>eR ds (eR es (s.push (.list (ui ds es)) λp s=>k (.ref p) s)))
theorem MB.add:MB C G .Add il:=λW x y s k J h=>by
 cases x with
 | nat a=>
  refine aM (dF (v:=y) h) λb e1r h=>?_
  subst e1r
  exact m8 (bX (.nat (a+b)) s rfl rfl h)
 | tup ds=>
  refine aM (dl (v:=y) h) λes e1r h=>?_
  subst e1r
  obtain⟨h1,h⟩:=dt (G:=G) h
  obtain⟨h2,h⟩:=dt (G:=G) h
  exact BN (Z (kY h1 h2) (by decide)) (bX _ s (by rw[<-nq]; rfl) rfl h)
 | ref p=>
  refine bD (cG G (v:=.ref p) (k:=λJ ds=>dw y s λJ es=>eR ds (eR es (s.push (.list (ui ds es)) λp s=>k (.ref p) s))) h) λp ds e hp h=>?_
  cases e
  obtain⟨q,es,rfl,hq,h⟩:=cG G (v:=y) h
  obtain⟨h1,h⟩:=dt (G:=G) h
  obtain⟨h2,h⟩:=dt (G:=G) h
  refine bD (cy G h) λr s' hr hs h=>?_
  exact yC (IsL.ref hp) (IsL.ref hq) (Z (kY h1 h2) (by decide)) (bX (.ref r) s' (by rw[<-hr]; rfl) (by rw[hs,<-nq]; rfl) h)
 | _=>exact nt h
noncomputable def I8(k:Nat)(x:TV):TV:=Nat.rec (motive:=λJ=>TV) .nil (λJ ih=>.cons x ih) k
theorem AY(G:b6)(x:TV):∀k:Nat,(I8 k x).dens G=bZ k (x.den G)
 | 0=>rfl
 | k+1=>congrArg (x.den G::·) (AY G x k)
noncomputable def FO:TV->TV->St->KT->Bool:=λx y s k=>dw x s λJ ds=>bW false (λa r=>bW (gn y λm=>cW (bm m 100000) (s.push (.list (I8 m a)) λp s=>k (.ref p) s)) (λJ J=>false) r) ds
theorem vg:MB C G .Mult FO:=λW x y s k J h=>by
 obtain⟨p,ds,rfl,hp,h⟩:=cG G h
 rcases bt h with ⟨_,h⟩ | ⟨a,r,rfl,h⟩
 ·exact nt h
 ·rcases bt (l:=r) (c:=λJ J=>false) (n:=gn y λm=>cW (bm m 100000) (s.push (.list (I8 m a)) λp s=>k (.ref p) s)) h with ⟨rfl,h⟩ | ⟨_,_,_,h⟩
  ·refine aM (dF h) λm e1r h=>?_
   rw[e1r]
   obtain⟨hm,h⟩:=bO h
   refine bD (cy G h) λq s' hq hs h=>?_
   refine wD (d:=a.den G) (k:=m) (IsL.ref hp) (Z (N hm) (by simp)) (bX (.ref q) s' (by rw[<-hq]; rfl) ?_ h)
   rw[hs,<-AY]; rfl
  ·exact nt h
noncomputable def Io(x y:TV)(k:Bool->Bool):Bool:=na x
 (λa=>na y (λb=>k (bm (bf a) b)) (λJ=>k false) (λJ=>false) (λJ=>false) (λJ=>false))
 (λa=>na y (λJ=>k true) (λb=>k (bm (bf b) a)) (λJ=>false) (λJ=>false) (λJ=>false)) (λJ=>false) (λJ=>false) (λJ=>false)
theorem Av(a b:Nat):bm (bf a) b=decide (a<b):=by
 by_cases h:a<b
 ·rw[decide_eq_true h]; exact fP h
 ·rw[decide_eq_false h]
  exact iG.mpr λe=>h (N e)
theorem sL(G:b6){x y:TV}{k:Bool->Bool}(h:Io x y k=true):∃a b:Int,x.den G=.int a/\y.den G=.int b/\k (decide (a<b))=true:=by
 cases x with
 | nat a=>cases y with
  | nat b=>exact bX a b rfl rfl (by rw[show decide ((a:Int)<b)=bm (bf a) b from by rw[Av]; exact decide_eq_decide.mpr (by exact er)]; exact h)
  | neg b=>exact bX a (ce b) rfl rfl (by rw[show decide ((a:Int)<ce b)=false from decide_eq_false (by exact ey.mpr (cY _))]; exact h)
  | _=>exact nt h
 | neg a=>cases y with
  | nat b=>exact bX (ce a) b rfl rfl (by rw[show decide (ce a<(b:Int))=true from decide_eq_true (KC a b)]; exact h)
  | neg b=>exact bX (ce a) (ce b) rfl rfl (by rw[show decide (ce a<ce b)=bm (bf b) a from by rw[Av]; exact decide_eq_decide.mpr (Kz a b)]; exact h)
  | _=>exact nt h
 | _=>exact nt h
noncomputable def JP:TV->TV->St->(Bool->Bool)->Bool:=λx y J k=>Io x y k
noncomputable def FL:TV->TV->St->(Bool->Bool)->Bool:=λx y J k=>Io y x k
noncomputable def cLe:TV->TV->St->(Bool->Bool)->Bool:=λx y J k=>Io y x λb=>k (!b)
noncomputable def cGe:TV->TV->St->(Bool->Bool)->Bool:=λx y J k=>Io x y λb=>k (!b)
theorem DC{X:bc}{W:En}{σ:aK}{Q:V->aK->Prop}{a b:Int}(h:Q (.bool (decide (a≥b))) σ):SV C X W σ [.int a,.int b] (jA .GtE) Q:=by
 rintro g A L s _ R hA ⟨_,_,rfl,⟨t,rfl⟩,_,_,rfl,⟨u,rfl⟩,rfl⟩
 exact P.ge_int (Up.here (d:=.bool _) R rfl h)
theorem MC.lt:MC C G .Lt JP:=λW x y s k Q J h hq=>by
 refine bD (sL G h) λa b e1 e2 h=>?_
 rw[e1,e2]; exact wE (hq _ h)
theorem oG:MC C G .Gt FL:=λW x y s k Q J h hq=>by
 refine bD (sL G h) λa b e1 e2 h=>?_
 rw[e1,e2]; exact DB (hq _ h)
theorem MC.le:MC C G .LtE cLe:=λW x y s k Q J h hq=>by
 refine bD (sL G (k:=λb=>k (!b)) h) λa b e1 e2 h=>?_
 rw[e1,e2]; exact Dy (hq _ (by rw[show decide (b<=a)=!decide (a<b) from by rw[<-decide_not]; exact decide_eq_decide.mpr ey.symm]; exact h))
theorem Kr:MC C G .GtE cGe:=λW x y s k Q J h hq=>by
 refine bD (sL G (k:=λb=>k (!b)) h) λa b e1 e2 h=>?_
 rw[e1,e2]; exact DC (hq _ (by rw[show decide (a≥b)=!decide (a<b) from by rw[<-decide_not]; exact decide_eq_decide.mpr ey.symm]; exact h))
theorem oF{m:Nat} {kd p1 p2}:ME C G sc n ns (.UnaryOp .USub (.Constant (.int m) kd p1) p2) (rK (if m=0 then .nat 0 else .neg (m - 1))):=λJ J J s J J J J J h=>
 SE.un (SE.int (ur ⟨_,s,by
  by_cases e:m=0
  ·rw[e]; rfl
  ·rw[if_neg e]; show V.int _=V.int _; congr 1; cases m with | zero=>exact absurd rfl e | succ k=>rfl,rfl,h⟩))
noncomputable def sF(v:TV)(k:Bool->Bool):Bool:=
 TV.rec (motive:=λJ=>Bool) false (k true) (λJ=>k false) (λJ=>k false) (λJ=>k false) (λJ=>k false) (λJ J=>k false) (λJ=>k false) (λJ=>false) (λJ=>k false) false (λJ J J J=>false) v
theorem yA{X:bc}{W:En}{σ:aK}{Q:V->aK->Prop}{v:TV}{k:Bool->Bool}(h:sF v k=true)(hq:∀b,k b=true->Q (.bool b) σ):SV C X W σ [v.den G,.none] (jA .Is) Q:=by
 cases v<;>first | exact SV.isNone (λq=>by cases q) (hq _ h) | exact nt h
theorem tQ{X:bc}{W:En}{σ:aK}{Q:V->aK->Prop}{v:TV}{k:Bool->Bool}(h:sF v (λb=>k (!b))=true)(hq:∀b,k b=true->Q (.bool b) σ):SV C X W σ [v.den G,.none] (jA .IsNot) Q:=by
 cases v<;>first | exact SV.isNotNone (λq=>by cases q) (hq _ h) | exact nt h
theorem MT.isNone{e:Expr}{a:RE} {kd p1 pos}(ha:ME C G sc n ns e a):MT C G sc n ns (.Compare e [.Is] [.Constant .none kd p1] pos) (λenv s k=>a env s λv s=>sF v λb=>k b s):=λW l env s k h1 h2 h3 h4 hr=>
 ST.cmp rfl (ha.go h1 h2 h3 h4 hr λv s' q=>by
  exact SE.none (yA q λb hb=>⟨b,rfl,s',rfl,hb⟩))
theorem MT.isNotNone{e:Expr}{a:RE} {kd p1 pos}(ha:ME C G sc n ns e a):MT C G sc n ns (.Compare e [.IsNot] [.Constant .none kd p1] pos) (λenv s k=>a env s λv s=>sF v λb=>k (!b) s):=λW l env s k h1 h2 h3 h4 hr=>
 ST.cmp rfl (ha.go h1 h2 h3 h4 hr λv s' q=>by
  exact SE.none (tQ (k:=λb=>k b s') q λb hb=>⟨b,rfl,s',rfl,hb⟩))
end
noncomputable def J6(x:TV):Bool->Nat->TV->Bool->Bool->Bool:=
 TV.rec (motive:=λJ=>Bool->Nat->TV->Bool->Bool->Bool) (λJ J J J J=>false) (λJ J J J J=>false) (λJ J J J J J=>false)
  (λn r J w t f=>Bool.rec (TV.rec (motive:=λJ=>Bool) false false (λJ=>false) (λm=>Bool.rec f t (bn n m)) (λJ=>f) (λJ=>f) (λJ J=>f) (λJ=>false) (λJ=>false) (λJ=>false) false (λJ J J J=>false) w) false r)
  (λn r J w t f=>Bool.rec (TV.rec (motive:=λJ=>Bool) false false (λJ=>false) (λJ=>f) (λm=>Bool.rec f t (bn n m)) (λJ=>f) (λJ J=>f) (λJ=>false) (λJ=>false) (λJ=>false) false (λJ J J J=>false) w) false r)
  (λn r J w t f=>Bool.rec (TV.rec (motive:=λJ=>Bool) false false (λJ=>false) (λJ=>f) (λJ=>f) (λm=>Bool.rec f t (bn n m)) (λJ J=>f) (λJ=>false) (λJ=>false) (λJ=>false) false (λJ J J J=>false) w) false r)
  (λJ ih r d w t f=>Bool.rec (Nat.rec (motive:=λJ=>Bool) false (λd J=>TV.rec (motive:=λJ=>Bool) false false (λJ=>false) (λJ=>f) (λJ=>f) (λJ=>f) (λes J=>ih true d es t f) (λJ=>false) (λJ=>false) (λJ=>false) false (λJ J J J=>false) w) d) false r)
  (λJ J J J J J=>false) (λJ J J J J J=>false) (λJ J J J J J=>false)
  (λr J w t f=>Bool.rec false (TV.rec (motive:=λJ=>Bool) false false (λJ=>false) (λJ=>false) (λJ=>false) (λJ=>false) (λJ J=>false) (λJ=>false) (λJ=>false) (λJ=>false) t (λJ J J J=>f) w) r)
  (λJ J iha ihb r d w t f=>Bool.rec false (TV.rec (motive:=λJ=>Bool) false false (λJ=>false) (λJ=>false) (λJ=>false) (λJ=>false) (λJ J=>false) (λJ=>false) (λJ=>false) (λJ=>false) f (λa b J J=>iha false d a (ihb true d b t f) f) w) r) x
def qo{K:Type}(a b:K)(t f:Bool):Prop:=(a=b/\t=true)∨(a≠b/\f=true)
theorem qo.beq{n m:Nat}{K:Type}{a b:K}{t f:Bool}(h:Bool.rec (motive:=λJ=>Bool) f t (bn n m)=true)(e:n=m->a=b)(e':a=b->n=m):qo a b t f:=by
 cases q:bn n m with
 | true=>rw[q] at h; exact .inl ⟨e (bk q),h⟩
 | false=>rw[q] at h; exact .inr ⟨λx=>(by rw[e' x,iR] at q; cases q),h⟩
theorem qo.no{K:Type}{a b:K}{t f:Bool}(h:f=true)(e:a≠b):qo a b t f:=.inr ⟨e,h⟩
noncomputable def Lb:KD->Nat
 | .i _=>0
 | .s _=>1
 | _=>2
noncomputable def kdf:KD->KD×KD
 | .cons a b=>(a,b)
 | a=>(a,a)
theorem qo.un{a b:KD}{i j:Nat}{t f:Bool}(h:f=true)(ha:Lb a=i)(hb:Lb b=j)(n:bn i j=false):qo a b t f:=.inr ⟨λe=>(by rw[<-ha,<-hb,e,iR] at n; cases n),h⟩
theorem rF(G:b6)(d:Nat):∀v:TV,Lb (v.kd G true d)=2
 | .cons _ _ | .unset | .none | .bool _ | .nat _ | .neg _ | .str _ | .tup _ | .ref _ | .val _ | .rng _ | .nil=>rfl
theorem vW(G:b6)(ds:TV):∀d:Nat,Lb ((TV.tup ds).kd G false d)=2
 | 0=>rfl
 | d+1=>rF G d ds
noncomputable def Lc:KD->Int
 | .i n=>n
 | _=>0
noncomputable def kds:KD->Str
 | .s n=>n
 | _=>""
theorem Am{G:b6}(o:cM G)(x:TV):∀(d:Nat)(y:TV)(t f:Bool),(J6 x false d y t f=true->qo (x.kd G false d) (y.kd G false d) t f)/\(J6 x true d y t f=true->qo (x.kd G true d) (y.kd G true d) t f):=by
 induction x with
 | nat n=>exact λd y t f=>⟨λh=>by
   cases y with
   | nat m=>exact qo.beq (n:=n) (m:=m) h (λe=>by rw[e]) λe=>nC (congrArg Lc e)
   | neg m=>exact .inr ⟨λe=>(by have e:(n:Int)=ce m:=congrArg Lc e; simp_all),h⟩
   | str m=>exact qo.un h rfl rfl rfl
   | tup es=>exact qo.un h rfl (vW G es d) rfl
   | _=>exact nt h,λh=>nt h⟩
 | neg n=>exact λd y t f=>⟨λh=>by
   cases y with
   | neg m=>exact qo.beq (n:=n) (m:=m) h (λe=>by rw[e]) λe=>pL (congrArg Lc e)
   | nat m=>exact .inr ⟨λe=>(by have e:ce n=(m:Int):=congrArg Lc e; simp_all),h⟩
   | str m=>exact qo.un h rfl rfl rfl
   | tup es=>exact qo.un h rfl (vW G es d) rfl
   | _=>exact nt h,λh=>nt h⟩
 | str n=>exact λd y t f=>⟨λh=>by
   cases y with
   | str m=>exact qo.beq (n:=n) (m:=m) h (λe=>by rw[e]) λe=>o.inj _ _ (congrArg kds e)
   | nat m=>exact qo.un h rfl rfl rfl
   | neg m=>exact qo.un h rfl rfl rfl
   | tup es=>exact qo.un h rfl (vW G es d) rfl
   | _=>exact nt h,λh=>nt h⟩
 | tup ds ih=>exact λd y t f=>⟨λh=>by
   cases d with
   | zero=>exact nt h
   | succ d=>
    cases y with
    | tup es=>exact(ih d es t f).2 h
    | str m=>exact qo.un h (rF G d ds) rfl rfl
    | nat m=>exact qo.un h (rF G d ds) rfl rfl
    | neg m=>exact qo.un h (rF G d ds) rfl rfl
    | _=>exact nt h,λh=>nt h⟩
 | nil=>exact λd y t f=>⟨λh=>nt h,λh=>by
   cases y with
   | nil=>exact .inl ⟨rfl,h⟩
   | cons a b=>exact .inr ⟨λe=>(by have e:KD.nil=KD.cons _ _:=e; cases e),h⟩
   | _=>exact nt h⟩
 | cons a b iha ihb=>exact λd y t f=>⟨λh=>nt h,λh=>by
   cases y with
   | nil=>exact .inr ⟨λe=>(by have e:KD.cons _ _=KD.nil:=e; cases e),h⟩
   | cons a' b'=>
    refine dn ((iha d a' _ f).1 h) (λhq=>eV hq λe1 h=>?_) (λhq=>eV hq λe1 h=>?_)
    ·refine dn ((ihb d b' t f).2 h) (λhq=>eV hq λe2 h=>?_) (λhq=>eV hq λe2 h=>?_)
     ·exact .inl ⟨(by show KD.cons _ _=KD.cons _ _; rw[e1,e2]),h⟩
     ·exact .inr ⟨λe=>e2 (congrArg (λk=>(kdf k).2) e),h⟩
    ·exact .inr ⟨λe=>e1 (congrArg (λk=>(kdf k).1) e),h⟩
   | _=>exact nt h⟩
 | _=>exact λd y t f=>⟨λh=>nt h,λh=>nt h⟩
theorem D4{k:KD}(h:q9 true k=true):q9 false k=true/\gS false k<=gS true k+1:=by
 cases k with
 | nil=>exact⟨rfl,ad _⟩
 | cons a b=>exact⟨h,ad _⟩
 | i _=>cases h
 | s _=>cases h
theorem A8{G:b6}(o:cM G)(x:TV)(d:Nat):q9 false (x.kd G false d)=true/\q9 true (x.kd G true d)=true/\gS false (x.kd G false d)<=d+1/\gS true (x.kd G true d)<=d+1:=by
 induction x generalizing d with
 | nat _=>exact⟨rfl,rfl,aH _,aH _⟩
 | neg _=>exact⟨rfl,rfl,aH _,aH _⟩
 | str k=>exact⟨o.ok k,rfl,aH _,aH _⟩
 | tup ds ih=>
  cases d with
  | zero=>exact⟨rfl,rfl,ad _,aH _⟩
  | succ d=>exact Kx (ih d) λJ h2 J h4=>eV (D4 h2) λr1 r2=>⟨r1,rfl,Z r2 (cq h4),aH _⟩
 | cons a b iha ihb=>exact Kx (iha d) λa1 J a3 J=>Kx (ihb d) λJ b2 J b4=>⟨rfl,congr (congrArg and a1) b2,cq (aH _),Gb.mpr ⟨a3,b4⟩⟩
 | _=>exact⟨rfl,rfl,cq (aH _),aH _⟩
theorem zk{G:b6}(x:TV)(d:Nat):(cL x false d=true->kv (x.kd G false d)=x.den G)/\(cL x true d=true->kvs (x.kd G true d)=x.dens G/\kv (x.kd G true d)=.tup (x.dens G)):=by
 induction x generalizing d with
 | nat _=>exact⟨λJ=>rfl,λh=>nt h⟩
 | neg _=>exact⟨λJ=>rfl,λh=>nt h⟩
 | str _=>exact⟨λJ=>rfl,λh=>nt h⟩
 | tup ds ih=>
  cases d with
  | zero=>exact⟨λh=>nt h,λh=>nt h⟩
  | succ d=>exact⟨λh=>((ih d).2 h).2,λh=>nt h⟩
 | nil=>exact⟨λh=>nt h,λJ=>⟨rfl,rfl⟩⟩
 | cons a b iha ihb=>exact⟨λh=>nt h,λh=>
   have e:kv (a.kd G false d)::kvs (b.kd G true d)=a.den G::b.dens G:=congr (congrArg List.cons ((iha d).1 (y3 h).1)) ((ihb d).2 (y3 h).2).1
   ⟨e,congrArg V.tup e⟩⟩
 | _=>exact⟨λh=>nt h,λh=>nt h⟩
theorem ni{G:b6}(o:cM G)(x:TV):tupK (ud G x)=true:=by
 unfold tupK
 simp only[aZ]
 cases x with
 | tup ds=>
  refine Kx (A8 o ds 4) λJ h2 J h4=>?_
  refine eV (D4 h2) λr1 r2=>?_
  exact⟨h2,fP (Z r2 (cq h4))⟩
 | _=>exact⟨rfl,rfl⟩
theorem lH{G:b6}(o:cM G)(r:TV):gp (r.sk G (ud G)):=by
 induction r with
 | cons p r _ ih=>
  cases p with
  | cons k v=>
   intro p hp
   rcases aE.mp hp with rfl | hp
   ·exact ni o k
   ·exact ih p hp
  | _=>exact λJ h=>nomatch h
 | _=>exact λJ h=>nomatch h
noncomputable def Iw(x y:TV)(t f:Bool):Bool:=na x (λJ=>false) (λJ=>false) (λi=>na y (λJ=>false) (λJ=>false) (λj=>Bool.rec f t (bn i j)) (λJ=>false) (λJ=>false)) (λJ=>false) (λJ=>false)
noncomputable def KS(x y:TV)(t f:Bool):Bool:=na x (λi=>na y (λj=>Bool.rec f t (bn i j)) (λJ=>f) (λJ=>false) (λJ=>false) (λJ=>false)) (λi=>na y (λJ=>f) (λj=>Bool.rec f t (bn i j)) (λJ=>false) (λJ=>false) (λJ=>false)) (λJ=>false) (λJ=>false) (λJ=>false)
noncomputable def eqT(x y:TV)(t f:Bool):Bool:=gQ x λds=>gQ y λes=>J6 ds true 4 es t f
def C0{K:Type}(key:TV->K)(eq:TV->TV->Bool->Bool->Bool):Prop:=∀x y t f,eq x y t f=true->qo (key x) (key y) t f
theorem v6{G:b6}(o:cM G):C0 (mN G) Iw:=λx y t f h=>by
 cases x with
 | str i=>cases y with
  | str j=>exact qo.beq (n:=i) (m:=j) h (λe=>by rw[e]) (λe=>o.inj _ _ e)
  | _=>exact nt h
 | _=>exact nt h
theorem v7:C0 EH KS:=λx y t f h=>by
 cases x with
 | nat i=>cases y with
  | nat j=>exact qo.beq (n:=i) (m:=j) h (λe=>by rw[e]) (λe=>nC e)
  | neg j=>exact qo.no h λe=>by have e:(i:Int)=ce j:=e; cases e
  | _=>exact nt h
 | neg i=>cases y with
  | neg j=>exact qo.beq (n:=i) (m:=j) h (λe=>by rw[e]) (λe=>pL e)
  | nat j=>exact qo.no h λe=>by have e:ce i=(j:Int):=e; cases e
  | _=>exact nt h
 | _=>exact nt h
theorem qd{G:b6}(o:cM G):C0 (ud G) eqT:=λx y t f h=>by
 refine aM (dl (v:=x) h) λds e1r h=>?_
 subst e1r
 refine aM (dl (v:=y) h) λes e1r h=>?_
 rw[e1r]
 exact(Am o ds 4 es t f).2 h
noncomputable def mM(eq:TV->TV->Bool->Bool->Bool)(k:TV)(c:TV->Bool)(non:Bool)(r:TV):Bool:=
 TV.rec (motive:=λJ=>Bool) false false (λJ=>false) (λJ=>false) (λJ=>false) (λJ=>false) (λJ J=>false) (λJ=>false) (λJ=>false) (λJ=>false) non (λp J J ih=>bW false (λk' v=>eq k' k (c v) ih) p) r
section
variable{K:Type} [DecidableEq K]{G:b6}{key:TV->K}{eq:TV->TV->Bool->Bool->Bool}
theorem iW(he:C0 key eq){k:TV}{c:TV->Bool}{non:Bool}{r:TV}:mM eq k c non r=true->(eS (r.sk G key) (key k)=none/\non=true)∨∃v,eS (r.sk G key) (key k)=some (v.den G)/\c v=true:=by
 induction r with
 | nil=>exact @λh=>.inl ⟨rfl,h⟩
 | cons p r _ ih=>
  intro h
  rcases bt (l:=p) (n:=false) (c:=λk' v=>eq k' k (c v) (mM eq k c non r)) h with ⟨_,h⟩ | ⟨k',v,rfl,h⟩
  ·exact nt h
  ·have e1:(TV.cons (.cons k' v) r).sk G key=(key k',v.den G)::r.sk G key:=rfl
   rw[e1]
   unfold eS
   dsimp only[cU]
   rcases he _ _ _ _ h with ⟨e,h⟩ | ⟨e,h⟩
   ·rw[decide_eq_true e]; exact .inr (a0 v rfl h)
   ·rw[decide_eq_false e]; exact ih h
 | _=>exact @λh=>nt h
noncomputable def Ce(eq:TV->TV->Bool->Bool->Bool)(k v:TV)(r:TV):(TV->Bool)->Bool:=
 TV.rec (motive:=λJ=>(TV->Bool)->Bool) (λJ=>false) (λJ=>false) (λJ J=>false) (λJ J=>false) (λJ J=>false) (λJ J=>false) (λJ J J=>false) (λJ J=>false) (λJ J=>false) (λJ J=>false)
  (λc=>c (.cons (.cons k v) .nil)) (λp r J ih c=>bW false (λk' J=>eq k' k (c (.cons (.cons k' v) r)) (ih λr'=>c (.cons p r'))) p) r
theorem yV{k:K}{d d':V}{r:List (K×V)}(hn:k∉r.map (·.1)):dU ((k,d')::r) k d=(k,d)::r:=by
 unfold dU
 have:((k,d')::r).any (λkv=>decide (kv.1=k))=true:=by simp
 rw[this,if_pos rfl,bQ,if_pos rfl]
 congr 1
 have:∀l:List (K×V),k∉l.map (·.1)->l.map (λkv=>if kv.1=k then(kv.1,d) else kv)=l:=by
  intro l
  induction l with
  | nil=>intro _; rfl
  | cons x l ih=>
   intro h
   rw[bQ,aE,not_or] at h
   rw[bQ,ih h.2,if_neg λe=>h.1 e.symm]
 exact this r hn
theorem yU{k k':K}{d d':V}{r:List (K×V)}(h:k'≠k):dU ((k',d')::r) k d=(k',d')::dU r k d:=by
 unfold dU
 have:((k',d')::r).any (λkv=>decide (kv.1=k))=r.any (λkv=>decide (kv.1=k)):=by simp[h]
 rw[this]
 by_cases q:(r.any λkv=>decide (kv.1=k))=true
 ·rw[if_pos q,if_pos q,bQ,if_neg h]
 ·rw[if_neg q,if_neg q]; rfl
theorem o6(he:C0 key eq){k v:TV}{r:TV}:∀{c:TV->Bool},((r.sk G key).map (·.1)).Nodup->Ce eq k v r c=true->∃r',r'.sk G key=dU (r.sk G key) (key k) (v.den G)/\c r'=true:=by
 induction r with
 | nil=>exact @λc J h=>(a0 _ rfl h)
 | cons p r _ ih=>
  intro c hn h
  rcases bt (l:=p) (n:=false) (c:=λk' J=>eq k' k (c (.cons (.cons k' v) r)) (Ce eq k v r λr'=>c (.cons p r'))) h with ⟨_,h⟩ | ⟨k',v',rfl,h⟩
  ·exact nt h
  ·have e1:(TV.cons (.cons k' v') r).sk G key=(key k',v'.den G)::r.sk G key:=rfl
   rw[e1] at hn ⊢
   rw[bQ,fH] at hn
   refine dn (he _ _ _ _ h) (λhq=>eV hq λe h=>?_) (λhq=>eV hq λe h=>?_)
   ·refine a0 _ ?_ h
    show(key k',v.den G)::r.sk G key=_
    rw[<-e,yV hn.1]
   ·refine aM (ih hn.2 h) λr' h1 h2=>?_
    refine a0 _ ?_ h2
    show(key k',v'.den G)::r'.sk G key=_
    rw[h1,yU e]
 | _=>exact @λJ J h=>nt h
noncomputable def JG(eq:TV->TV->Bool->Bool->Bool)(k:TV)(r:TV):(TV->TV->Bool)->Bool:=
 TV.rec (motive:=λJ=>(TV->TV->Bool)->Bool) (λJ=>false) (λJ=>false) (λJ J=>false) (λJ J=>false) (λJ J=>false) (λJ J=>false) (λJ J J=>false) (λJ J=>false) (λJ J=>false) (λJ J=>false)
  (λJ=>false) (λp r J ih c=>bW false (λk' v=>eq k' k (c v r) (ih λv r'=>c v (.cons p r'))) p) r
theorem Hq(he:C0 key eq){k:TV}{r:TV}:∀{c:TV->TV->Bool},((r.sk G key).map (·.1)).Nodup->JG eq k r c=true->∃v r',eS (r.sk G key) (key k)=some (v.den G)/\r'.sk G key=lf (r.sk G key) (key k)/\c v r'=true:=by
 induction r with
 | nil=>exact @λJ J h=>nt h
 | cons p r _ ih=>
  intro c hn h
  rcases bt (l:=p) (n:=false) (c:=λk' v=>eq k' k (c v r) (JG eq k r λv r'=>c v (.cons p r'))) h with ⟨_,h⟩ | ⟨k',v',rfl,h⟩
  ·exact nt h
  ·have e1:(TV.cons (.cons k' v') r).sk G key=(key k',v'.den G)::r.sk G key:=rfl
   rw[e1] at hn ⊢
   rw[bQ,fH] at hn
   refine dn (he _ _ _ _ h) (λhq=>eV hq λe h=>?_) (λhq=>eV hq λe h=>?_)
   ·refine bX v' r ?_ ?_ h
    ·unfold eS; rw[cU,decide_eq_true e]; rfl
    ·unfold lf
     rw[l7]
     simp only[e,ne_eq,not_true_eq_false,decide_false,fB,if_false]
     refine(List.filter_eq_self.mpr λq hq=>?_).symm
     exact decide_eq_true λhq'=>hn.1 (e▸hq'▸a8.mpr (a0 q hq rfl))
   ·refine bD (ih hn.2 h) λv r' h1 h2 h3=>?_
    refine bX v _ ?_ ?_ h3
    ·unfold eS at h1 ⊢; rw[cU,decide_eq_false e]; exact h1
    ·show(key k',v'.den G)::r'.sk G key=_
     rw[h2]
     unfold lf
     simp only[l7]
     simp only[ne_eq,e,not_false_eq_true,decide_true,if_true]
 | _=>exact @λJ J h=>nt h
end
section
variable{G:b6}
noncomputable def iA(v:TV)(s:St)(k:Pos->Nat->TV->Bool):Bool:=
 TV.rec (motive:=λJ=>Bool) false false (λJ=>false) (λJ=>false) (λJ=>false) (λJ=>false) (λJ J=>false) (λp=>s.at p λo=>TO.rec (motive:=λJ=>Bool) (λJ=>false) (λc r=>k p c r) (λJ J=>false) (λJ=>false) (λJ=>false) o) (λJ=>false) (λJ=>false) false (λJ J J J=>false) v
theorem gR(G:b6){v:TV}{s:St}{k:Pos->Nat->TV->Bool}(h:iA v s k=true):∃p c r,v=.ref p/\(s.den G).get p.num=some (dO G.P (t0 G c r))/\k p c r=true:=by
 cases v with
 | ref p=>
  refine aM (d8 G (k:=λo=>TO.rec (motive:=λJ=>Bool) (λJ=>false) (λc r=>k p c r) (λJ J=>false) (λJ=>false) (λJ=>false) o) h) λo ho h=>?_
  cases o with
  | dict c r=>exact G2 p c r rfl ho h
  | _=>exact nt h
 | _=>exact nt h
noncomputable def oR(r:TV)(c c':Nat)(b:Bool):Bool:=bW b (λJ J=>cW (bn c c') b) r
theorem w7(c:Nat):t0 G c .nil=[]:=by
 match c with
 | 0=>rfl
 | 1=>rfl
 | _+2=>rfl
theorem iK{r:TV}{c c':Nat}{b:Bool}(h:oR r c c' b=true):t0 G c r=t0 G c' r/\b=true:=by
 rcases bt h with ⟨rfl,h⟩ | ⟨_,_,rfl,h⟩
 ·exact⟨by rw[w7,w7],h⟩
 ·obtain⟨h1,h2⟩:=bO h
  rw[bk h1]
  exact⟨rfl,h2⟩
noncomputable def xw(c:Nat)(r k:TV)(f:Nat->(TV->TV->Bool->Bool->Bool)->Bool):Bool:=
 na k (λJ=>oR r c 1 (f 1 KS)) (λJ=>oR r c 1 (f 1 KS)) (λJ=>oR r c 0 (f 0 Iw)) (λds=>cW (cL ds true 4) (oR r c 2 (f 2 eqT))) (λJ=>false)
theorem vV{c:Nat}{r k:TV}{f:Nat->(TV->TV->Bool->Bool->Bool)->Bool}(h:xw c r k f=true) :
  (t0 G c r=i3 V.str (r.sk G (mN G))/\k.den G=V.str (mN G k)/\f 0 Iw=true)∨(t0 G c r=i3 V.int (r.sk G EH)/\k.den G=V.int (EH k)/\f 1 KS=true)∨
  (t0 G c r=i3 kv (r.sk G (ud G))/\k.den G=kv (ud G k)/\f 2 eqT=true):=by
 cases k with
 | nat n=>
  obtain⟨e,h⟩:=iK (G:=G) h
  exact .inr (.inl ⟨e,rfl,h⟩)
 | neg n=>
  obtain⟨e,h⟩:=iK (G:=G) h
  exact .inr (.inl ⟨e,rfl,h⟩)
 | str n=>
  obtain⟨e,h⟩:=iK (G:=G) h
  exact .inl ⟨e,rfl,h⟩
 | tup ds=>
  obtain⟨h1,h⟩:=bO h
  refine eV (iK (G:=G) h) λe h=>?_
  exact .inr (.inr ⟨e,((zk ds 4).2 h1).2.symm,h⟩)
 | _=>exact nt h
variable{C:Cx}
def MV(C:Cx)(G:b6)(f:Value)(r:RF):Prop:=
 ∀(W:En)(args:TV)(s:St)(k:KT),W.calm=true->r args s k=true->SC C .none W (s.den G) (.val f) (args.dens G) (Tells G k)
noncomputable def lu(a:TV)(c:TV->Bool):Bool:=bW false (λx r=>bW (c x) (λJ J=>false) r) a
noncomputable def tq(a:TV)(c:TV->TV->Bool):Bool:=bW false (λx r=>bW false (λy r=>bW (c x y) (λJ J=>false) r) r) a
noncomputable def FQ(a:TV)(c:TV->TV->TV->Bool):Bool:=bW false (λx r=>bW false (λy r=>bW false (λz r=>bW (c x y z) (λJ J=>false) r) r) r) a
theorem fN{a:TV}{c:TV->Bool}(h:lu a c=true):∃x,a=.cons x .nil/\c x=true:=by
 rcases bt h with ⟨_,h⟩ | ⟨x,r,rfl,h⟩
 ·exact nt h
 ·rcases bt (l:=r) (n:=c x) (c:=λJ J=>false) h with ⟨rfl,h⟩ | ⟨_,_,_,h⟩
  ·exact a0 x rfl h
  ·exact nt h
theorem jQ{a:TV}{c:TV->TV->Bool}(h:tq a c=true):∃x y,a=.cons x (.cons y .nil)/\c x y=true:=by
 rcases bt h with ⟨_,h⟩ | ⟨x,r,rfl,h⟩
 ·exact nt h
 ·refine aM (fN (a:=r) h) λy e1r h=>?_
  rw[e1r]
  exact rn x y rfl h
theorem ya{a:TV}{c:TV->TV->TV->Bool}(h:FQ a c=true):∃x y z,a=.cons x (.cons y (.cons z .nil))/\c x y z=true:=by
 rcases bt h with ⟨_,h⟩ | ⟨x,r,rfl,h⟩
 ·exact nt h
 ·refine oq (jQ (a:=r) h) λy z e2r h=>?_
  rw[e2r]
  exact J5 x y z rfl h
noncomputable def sD:RF:=λa s k=>FQ a λv key d=>iA v s λJ c r=>xw c r key λJ eq=>mM eq key (λw=>k w s) (k d s) r
theorem MV.get(o:cM G)(hP:G.P=C.w.params):MV C G (.builtin "dict.get") sD:=λW a s k hc h=>by
 refine wo (ya h) λv key d e3r h=>?_
 subst e3r
 obtain⟨p,c,r,rfl,hp,h⟩:=gR G h
 rw[hP] at hp
 have fin:∀{K:Type} [DecidableEq K]{sk:List (K×V)}{x:K},((eS sk x=none/\k d s=true)∨∃w,eS sk x=some (w.den G)/\k w s=true)->Tells G k ((eS sk x).getD (d.den G)) (s.den G):=by
  intro K _ sk x h
  refine dn h (λhq=>eV hq λe h=>?_) (λhq=>aM hq λw e h=>?_)
  ·rw[e]; exact bX d s rfl rfl h
  ·rw[e]; exact bX w s rfl rfl h
 show SC C .none W (s.den G) _ [.ref p.num,key.den G,d.den G] _
 rcases vV (G:=G) h with ⟨e1,e2,h⟩ | ⟨e1,e2,h⟩ | ⟨e1,e2,h⟩
 ·rw[e1] at hp; rw[e2]
  exact qt (encStr _ _) hp (fin (iW (v6 o) h))
 ·rw[e1] at hp; rw[e2]
  exact qt (encInt _ _) hp (fin (iW (G:=G) v7 h))
 ·rw[e1] at hp; rw[e2]
  exact wK (lH o r) (ni o key) hp (fin (iW (qd o) h))
noncomputable def cIn:TV->TV->St->(Bool->Bool)->Bool:=λx y s k=>gQ x λJ=>iA y s λJ c r=>xw c r x λJ eq=>mM eq x (λJ=>k true) (k false) r
theorem B0(o:cM G)(hP:G.P=C.w.params):MC C G .In cIn:=λW x y s k Q J h hq=>by
 refine aM (dl (v:=x) h) λds e1r h=>?_
 subst e1r
 obtain⟨p,c,r,rfl,hp,h⟩:=gR G h
 rw[hP] at hp
 obtain⟨h1,h⟩:=bO h
 obtain⟨e,h⟩:=iK (G:=G) h
 rw[e] at hp
 rw[show(TV.tup ds).den G=kv (ud G (.tup ds)) from((zk ds 4).2 h1).2.symm]
 refine yB (lH o r) (ni o _) hp (hq _ ?_)
 rcases iW (qd o) h with ⟨e,h⟩ | ⟨w,e,h⟩
 ·rw[e]; exact h
 ·rw[e]; exact h
noncomputable def Cz(r:TV)(b:Bool):Bool:=cW (bm (jK r) 1000) b
theorem sn{K:Type}{key:TV->K}:∀r:TV,(r.sk G key).length<=jK r
 | .cons (.cons k v) r=>cq (sn r)
 | .cons .unset _ | .cons .none _ | .cons (.bool _) _ | .cons (.nat _) _ | .cons (.neg _) _ | .cons (.str _) _ | .cons (.tup _) _ | .cons (.ref _) _ | .cons (.val _) _ | .cons (.rng _) _ | .cons .nil _=>aH _
 | .unset | .none | .bool _ | .nat _ | .neg _ | .str _ | .tup _ | .ref _ | .val _ | .rng _ | .nil=>aH _
theorem rI{r:TV}{b:Bool}(h:Cz r b=true):(∀{K:Type}{key:TV->K},(r.sk G key).length<=1000000)/\b=true:=by
 refine eV (bO h) λh1 h2=>?_
 exact⟨λ{K key}=>Z (sn r) (Z (N h1) (by simp)),h2⟩
theorem SU.nodup{X:bc}{W:En}{σ:aK}{i:Nat}{k d:V}{kvs:List (V×V)}{Q:aK->Prop}(hi:σ.get i=some (dO C.w.params kvs))(h:(kvs.map (·.1)).Nodup->SU C X W σ (.ref i) k d Q):SU C X W σ (.ref i) k d Q:=λg A L s ov iv v R hA ho hk hv=>by
 refine Jg (R.dAt hi ho) λa es n e t hs hn e2 r=>?_
 exact h hn g A L s ov iv v R hA ho hk hv
theorem SC.nodup{X:bc}{W:En}{σ:aK}{i:Nat}{f:V}{ds:List V}{kvs:List (V×V)}{Q:V->aK->Prop}(hi:σ.get i=some (dO C.w.params kvs))(h:(kvs.map (·.1)).Nodup->SC C X W σ f (.ref i::ds) Q):SC C X W σ f (.ref i::ds) Q:=λg A L s fv vs R hA hf hv=>by
 refine bD hv λv r e h1 h2=>?_
 refine Jg (R.dAt hi h1) λa es n e t hs hn e2 r=>?_
 exact h hn g A L s fv vs R hA hf (bX v _ (by assumption) h1 h2)
noncomputable def xe(v key x:TV)(s:St)(k:St->Bool):Bool:=iA v s λp c r=>Cz r (xw c r key λc' eq=>Ce eq key x r λr'=>k (s.put (.dict c' r') p))
theorem xd(o:cM G)(hP:G.P=C.w.params){W:En}{v key x:TV}{s:St}{k:St->Bool}{Q:aK->Prop}(h:xe v key x s k=true)(hq:∀s',k s'=true->Q (s'.den G)):SU C .none W (s.den G) (v.den G) (key.den G) (x.den G) Q:=by
 obtain⟨p,c,r,rfl,hp,h⟩:=gR G h
 obtain⟨hf,h⟩:=rI (G:=G) h
 rw[hP] at hp
 refine SU.nodup hp λhn=>?_
 rcases vV (G:=G) h with ⟨e1,e2,h⟩ | ⟨e1,e2,h⟩ | ⟨e1,e2,h⟩
 ·rw[e1] at hp hn; rw[e2]
  refine aM (o6 (v6 o) ((nY (encStr C.prog C.w).inj).mp hn) h) λr' h1 h2=>?_
  refine SU.dictK (encStr _ _) hp hf ?_
  rw[<-h1]
  have:=hq _ h2
  rw[dr] at this
  rwa [<-hP]
 ·rw[e1] at hp hn; rw[e2]
  refine aM (o6 (G:=G) v7 ((nY (encInt C.prog C.w).inj).mp hn) h) λr' h1 h2=>?_
  refine SU.dictK (encInt _ _) hp hf ?_
  rw[<-h1]
  have:=hq _ h2
  rw[dr] at this
  rwa [<-hP]
 ·rw[e1] at hp hn; rw[e2]
  refine aM (o6 (qd o) ((gp.nodup (lH o r)).mp hn) h) λr' h1 h2=>?_
  refine SU.dictT (lH o r) (ni o key) hp hf ?_
  rw[<-h1]
  have:=hq _ h2
  rw[dr] at this
  rwa [<-hP]
noncomputable def Ik:RF:=λa s k=>FQ a λv key d=>gQ key λJ=>iA v s λp c r=>Cz r (xw c r key λc' eq=>mM eq key (λw=>k w s) (Ce eq key d r λr'=>k d (s.put (.dict c' r') p)) r)
theorem tV(o:cM G)(hP:G.P=C.w.params):MV C G (.builtin "dict.setdefault") Ik:=λW a s k hc h=>by
 refine wo (ya h) λv key d e3r h=>?_
 rw[e3r]
 refine aM (dl (v:=key) h) λds e1r h=>?_
 subst e1r
 obtain⟨p,c,r,rfl,hp,h⟩:=gR G h
 obtain⟨hf,h⟩:=rI (G:=G) h
 rw[hP] at hp
 obtain⟨h1,h⟩:=bO h
 obtain⟨e,h⟩:=iK (G:=G) h
 rw[e] at hp
 show SC C .none W (s.den G) _ [.ref p.num,(TV.tup ds).den G,d.den G] _
 refine SC.nodup hp λhn=>?_
 rw[show(TV.tup ds).den G=kv (ud G (.tup ds)) from((zk ds 4).2 h1).2.symm]
 refine rW (lH o r) (ni o _) hp hf ?_
 rcases iW (qd o) h with ⟨e,h⟩ | ⟨w,e,h⟩
 ·rw[e]
  refine aM (o6 (qd o) ((gp.nodup (lH o r)).mp hn) h) λr' h1 h2=>?_
  rw[<-h1]
  refine bX d _ rfl ?_ h2
  rw[dr,<-hP]; rfl
 ·rw[e]; exact bX w s rfl rfl h
noncomputable def Il:RF:=λa s k=>tq a λv key=>gn key λJ=>iA v s λp c r=>Cz r (oR r c 1 (JG KS key r λw r'=>k w (s.put (.dict 1 r') p)))
theorem Gu(hP:G.P=C.w.params):MV C G (.builtin "dict.pop") Il:=λW a s k hc h=>by
 refine oq (jQ h) λv key e2r h=>?_
 rw[e2r]
 refine aM (dF (v:=key) h) λm e1r h=>?_
 subst e1r
 obtain⟨p,c,r,rfl,hp,h⟩:=gR G h
 obtain⟨hf,h⟩:=rI (G:=G) h
 rw[hP] at hp
 obtain⟨e,h⟩:=iK (G:=G) h
 rw[e] at hp
 refine SC.nodup hp λhn=>?_
 refine bD (Hq (G:=G) v7 ((nY (encInt C.prog C.w).inj).mp hn) h) λw r' h1 h2 h3=>?_
 refine wJ (k:=(m:Int)) (encInt _ _) (λg v hv=>by obtain⟨t,rfl⟩:=hv; rfl) hp h1 hf ?_
 refine bX w _ rfl ?_ h3
 rw[dr,<-hP]
 show _=aK.set _ _ (dO G.P (i3 V.int (r'.sk G EH)))
 rw[h2]; rfl
end
noncomputable def KI(x:TV):Bool->Nat->TV->Bool->Bool->Bool:=
 TV.rec (motive:=λJ=>Bool->Nat->TV->Bool->Bool->Bool) (λJ J J J J=>false) (λJ J J J J=>false) (λJ J J J J J=>false)
  (λn r J w t f=>Bool.rec (na w (λm=>Bool.rec f t (bm (bf n) m)) (λJ=>f) (λJ=>false) (λJ=>false) (λJ=>false)) false r)
  (λn r J w t f=>Bool.rec (na w (λJ=>t) (λm=>Bool.rec f t (bm (bf m) n)) (λJ=>false) (λJ=>false) (λJ=>false)) false r)
  (λn r J w t f=>Bool.rec (na w (λJ=>false) (λJ=>false) (λm=>Bool.rec f t (bm (bf n) m)) (λJ=>false) (λJ=>false)) false r)
  (λJ ih r d w t f=>Bool.rec (Nat.rec (motive:=λJ=>Bool) false (λd J=>gQ w λes=>ih true d es t f) d) false r)
  (λJ J J J J J=>false) (λJ J J J J J=>false) (λJ J J J J J=>false)
  (λr J w t f=>Bool.rec false (bW f (λJ J=>t) w) r)
  (λa J iha ihb r d w t f=>Bool.rec false (bW f (λa' b'=>J6 a false d a' (ihb true d b' t f) (iha false d a' t f)) w) r) x
def m0(o:Option Bool)(t f:Bool):Prop:=(o=some true/\t=true)∨(o=some false/\f=true)
theorem m0.ble{n m:Nat}{o:Option Bool}{t f:Bool}(h:Bool.rec (motive:=λJ=>Bool) f t (bm (bf n) m)=true)(e:o=some (decide (n<m))):m0 o t f:=by
 rw[Av] at h
 by_cases q:n<m
 ·rw[decide_eq_true q] at h e; exact .inl ⟨e,h⟩
 ·rw[decide_eq_false q] at h e; exact .inr ⟨e,h⟩
theorem Ey{x y:KD}(hx:q9 true x=true)(hy:q9 true y=true):jt true x y=jt false x y:=by
 cases x<;>first | (cases hx; done) | skip
 all_goals (cases y<;>first | (cases hy; done) | rfl)
theorem Jw{G:b6}(o:cM G)(x:TV)(d:Nat)(y:TV)(t f:Bool):(KI x false d y t f=true->m0 (jt false (x.kd G false d) (y.kd G false d)) t f)/\(KI x true d y t f=true->m0 (jt true (x.kd G true d) (y.kd G true d)) t f):=by
 induction x generalizing d y t f with
 | nat n=>exact⟨λh=>by
   cases y with
   | nat m=>exact m0.ble (n:=n) (m:=m) h (congrArg some (decide_eq_decide.mpr er))
   | neg m=>exact .inr ⟨congrArg some (decide_eq_false (by exact ey.mpr (cY _))),h⟩
   | _=>exact nt h,λh=>nt h⟩
 | neg n=>exact⟨λh=>by
   cases y with
   | nat m=>exact .inl ⟨congrArg some (decide_eq_true (KC n m)),h⟩
   | neg m=>exact m0.ble (n:=m) (m:=n) h (congrArg some (decide_eq_decide.mpr (Kz n m)))
   | _=>exact nt h,λh=>nt h⟩
 | str n=>exact⟨λh=>by
   cases y with
   | str m=>
    refine m0.ble (n:=n) (m:=m) h (congrArg some (decide_eq_decide.mpr ⟨λq=>?_,o.lt n m⟩))
    rcases fW n m with a | a | a
    ·exact a
    ·subst a; exact absurd q (iD _)
    ·exact absurd (yo q (o.lt m n a)) (iD _)
   | _=>exact nt h,λh=>nt h⟩
 | tup ds ih=>
  refine⟨λh=>?_,λh=>nt h⟩
  cases d with
  | zero=>exact nt h
  | succ d=>
   refine aM (dl (v:=y) h) λes e1r h=>?_
   subst e1r
   exact Ey (A8 o ds d).2.1 (A8 o es d).2.1▸(ih d es t f).2 h
 | nil=>exact⟨λh=>nt h,λh=>by
   rcases bt (l:=y) (n:=f) (c:=λJ J=>t) h with ⟨rfl,h⟩ | ⟨a,b,rfl,h⟩
   ·exact .inr ⟨rfl,h⟩
   ·exact .inl ⟨rfl,h⟩⟩
 | cons a b iha ihb=>
  refine⟨λh=>nt h,λh=>?_⟩
  rcases bt (l:=y) (n:=f) (c:=λa' b'=>J6 a false d a' (KI b true d b' t f) (KI a false d a' t f)) h with ⟨rfl,h⟩ | ⟨a',b',rfl,h⟩
  ·exact .inr ⟨rfl,h⟩
  ·show m0 (if _=_ then jt true _ _ else jt false _ _) t f
   refine dn ((Am o a d a' _ _).1 h) (λhq=>eV hq λe h=>?_) (λhq=>eV hq λe h=>?_)
   ·rw[if_pos e]; exact(ihb d b' t f).2 h
   ·rw[if_neg e]; exact(iha d a' t f).1 h
 | _=>exact⟨λh=>nt h,λh=>nt h⟩
noncomputable def TV.kl(G:b6)(d:Nat):TV->List KD
 | .cons a b=>a.kd G false d::TV.kl G d b
 | _=>[]
def f7(G:b6)(d:Nat)(r:TV):Prop:=(r.kl G d).map kv=r.dens G
noncomputable def KM(d:Nat)(x l:TV):(TV->Bool)->Bool:=
 TV.rec (motive:=λJ=>(TV->Bool)->Bool) (λJ=>false) (λJ=>false) (λJ J=>false) (λJ J=>false) (λJ J=>false) (λJ J=>false) (λJ J J=>false) (λJ J=>false) (λJ J=>false) (λJ J=>false)
  (λc=>c (.cons x .nil)) (λy r J ih c=>KI x false d y (c (.cons x (.cons y r))) (ih λr'=>c (.cons y r'))) l
noncomputable def sj(d:Nat)(l:TV):(TV->Bool)->Bool:=
 TV.rec (motive:=λJ=>(TV->Bool)->Bool) (λJ=>false) (λJ=>false) (λJ J=>false) (λJ J=>false) (λJ J=>false) (λJ J=>false) (λJ J J=>false) (λJ J=>false) (λJ J=>false) (λJ J=>false)
  (λc=>c .nil) (λx J J ih c=>ih λr'=>KM d x r' c) l
theorem Hj{G:b6}(o:cM G){d:Nat}{x:TV}{l:TV}:∀{c:TV->Bool},KM d x l c=true->∃l',l'.kl G d=vZ (x.kd G false d) (l.kl G d)/\(kv (x.kd G false d)=x.den G->f7 G d l->f7 G d l')/\c l'=true:=by
 induction l with
 | nil=>exact @λc h=>(lz _ rfl (λh J=>by show[kv _]=[_]; rw[h]) h)
 | cons y r _ ih=>
  intro c h
  have e1:(TV.cons y r).kl G d=y.kd G false d::r.kl G d:=rfl
  rw[e1]
  dsimp only[vZ]
  refine dn ((Jw o x d y _ _).1 h) (λhq=>eV hq λe h=>?_) (λhq=>eV hq λe h=>?_)
  ·rw[if_pos e]
   refine lz _ rfl (λhx hp=>?_) h
   have hp:(y.kd G false d::r.kl G d).map kv=_:=hp
   show kv _::(y.kd G false d::r.kl G d).map kv=x.den G::_
   simp only[hx,hp]
  ·rw[if_neg ((e)▸λq=>absurd q (by decide))]
   refine lL (ih h) λl' h1 h2 h3=>?_
   refine lz (.cons y l') (congrArg (y.kd G false d::·) h1) (λhx hp=>?_) h3
   injection hp with p1 p2
   have:=h2 hx p2
   show kv _::(l'.kl G d).map kv=y.den G::l'.dens G
   rw[p1,this]
 | _=>exact @λJ h=>nt h
theorem oU{G:b6}(o:cM G){d:Nat}{l:TV}:∀{c:TV->Bool},sj d l c=true->∃l',l'.kl G d=iU (l.kl G d)/\(f7 G d l->f7 G d l')/\c l'=true:=by
 induction l with
 | nil=>exact @λc h=>(lz _ rfl (λh=>h) h)
 | cons x r _ ih=>
  intro c h
  refine lL (ih h) λr' h1 h2 h3=>?_
  refine lL (Hj o (l:=r') h3) λl' f1 f2 f3=>?_
  refine lz l' ?_ (λhp=>?_) f3
  ·rw[f1,h1]; rfl
  ·have hp:kv (x.kd G false d)::(r.kl G d).map kv=x.den G::r.dens G:=hp
   injection hp with p1 p2
   exact f2 p1 (h2 p2)
 | _=>exact @λJ h=>nt h
noncomputable def KG(d:Nat)(x:TV)(t f:Bool)(l:TV):Bool:=
 TV.rec (motive:=λJ=>Bool) false false (λJ=>false) (λJ=>false) (λJ=>false) (λJ=>false) (λJ J=>false) (λJ=>false) (λJ=>false) (λJ=>false) f (λy J J ih=>J6 x false d y t ih) l
theorem GZ{G:b6}(o:cM G){d:Nat}{x:TV}{t f:Bool}{l:TV}:KG d x t f l=true->(x.kd G false d∈l.kl G d/\t=true)∨(x.kd G false d∉l.kl G d/\f=true):=by
 induction l with
 | nil=>exact @λh=>.inr ⟨λq=>(by cases q),h⟩
 | cons y r _ ih=>
  intro h
  refine dn ((Am o x d y _ _).1 h) (λhq=>eV hq λe h=>?_) (λhq=>eV hq λe h=>?_)
  ·rw[e]; exact .inl ⟨.head _,h⟩
  ·refine dn (ih h) (λhq=>eV hq λe2 h=>?_) (λhq=>eV hq λe2 h=>?_)
   ·exact .inl ⟨.tail _ e2,h⟩
   ·refine .inr ⟨λq=>?_,h⟩
    rcases aE.mp q with q | q
    ·exact e q
    ·exact e2 q
 | _=>exact @λh=>nt h
noncomputable def Iy(d:Nat)(l:TV):TV->(TV->Bool)->Bool:=
 TV.rec (motive:=λJ=>TV->(TV->Bool)->Bool) (λJ J=>false) (λJ J=>false) (λJ J J=>false) (λJ J J=>false) (λJ J J=>false) (λJ J J=>false) (λJ J J J=>false) (λJ J J=>false) (λJ J J=>false) (λJ J J=>false)
  (λacc c=>c acc) (λx J J ih acc c=>KG d x (ih acc c) (ih (ui acc (.cons x .nil)) c) acc) l
theorem zj{G:b6}{d:Nat}:∀v w:TV,(ui v w).kl G d=v.kl G d++w.kl G d
 | .cons a r,w=>congrArg (a.kd G false d::·) (zj r w)
 | .unset,_ | .none,_ | .bool _,_ | .nat _,_ | .neg _,_ | .str _,_ | .tup _,_ | .ref _,_ | .val _,_ | .rng _,_ | .nil,_=>rfl
theorem Fz{G:b6}(o:cM G){d:Nat}{l:TV}:∀{acc:TV}{c:TV->Bool},Iy d l acc c=true->∃l',l'.kl G d=(l.kl G d).foldl fE (acc.kl G d)/\(f7 G d l->f7 G d acc->f7 G d l')/\c l'=true:=by
 induction l with
 | nil=>exact @λacc c h=>(lz acc rfl (λJ h=>h) h)
 | cons x r _ ih=>
  intro acc c h
  have e1:(TV.cons x r).kl G d=x.kd G false d::r.kl G d:=rfl
  simp only[e1,nr]
  dsimp only[fE]
  refine dn (GZ o (l:=acc) h) (λhq=>eV hq λe h=>?_) (λhq=>eV hq λe h=>?_)
  ·rw[if_pos e]
   refine lL (ih h) λl' h1 h2 h3=>?_
   refine lz l' h1 (λhp ha=>h2 ?_ ha) h3
   injection hp
  ·rw[if_neg e]
   refine lL (ih h) λl' h1 h2 h3=>?_
   refine lz l' (by rw[h1,zj]; rfl) (λhp ha=>?_) h3
   injection hp with p1 p2
   refine h2 p2 ?_
   unfold f7 at ha ⊢
   simp only[zj,dX,ha,nq]
   show _++[kv _]=_++[_]
   rw[p1]
 | _=>exact @λJ J h=>nt h
def PI(k:KD):Prop:=∃n,k=.i n
def PS(k:KD):Prop:=∃x,k=.s x
def uA(P:KD->Prop):KD->Prop
 | .nil=>True
 | .cons a b=>P a/\uA P b
 | _=>False
def PA(k:KD):Prop:=∃a r,k=.cons a r/\PS a/\uA PI r
def PB(k:KD):Prop:=∃a r,k=.cons a r/\PA a/\uA PA r
theorem y1{P:KD->Prop}(hc:∀a b,P a->P b->a≠b->(jt false a b).isSome=true):∀x y:KD,uA P x->uA P y->(jt true x y).isSome=true
 | .nil,.nil,_,_=>rfl
 | .nil,.cons _ _,_,_=>rfl
 | .cons _ _,.nil,_,_=>rfl
 | .cons a b,.cons c d,hx,hy=>by
  show(if a=c then jt true b d else jt false a c).isSome=true
  by_cases e:a=c
  ·rw[if_pos e]; exact y1 hc b d hx.2 hy.2
  ·rw[if_neg e]; exact hc a c hx.1 hy.1 e
 | .i _,_,h,_ | .s _,_,h,_=>h.elim
 | .nil,.i _,_,h | .nil,.s _,_,h | .cons _ _,.i _,_,h | .cons _ _,.s _,_,h=>h.elim
theorem cmpI(a b:KD)(ha:PI a)(hb:PI b)(_:a≠b):(jt false a b).isSome=true:=by
 obtain⟨n,rfl⟩:=ha; obtain⟨m,rfl⟩:=hb; rfl
theorem JK(x y:KD)(hx:PA x)(hy:PA y):(jt true x y).isSome=true/\(jt false x y).isSome=true:=by
 obtain⟨_,r,rfl,⟨a,rfl⟩,hr⟩:=hx
 obtain⟨_,r',rfl,⟨b,rfl⟩,hr'⟩:=hy
 have:(if KD.s a=KD.s b then jt true r r' else jt false (.s a) (.s b)).isSome=true:=by
  by_cases e:KD.s a=KD.s b
  ·rw[if_pos e]; exact y1 cmpI r r' hr hr'
  ·rw[if_neg e]; rfl
 exact⟨this,this⟩
theorem cmpB(x y:KD)(hx:PB x)(hy:PB y):(jt true x y).isSome=true:=by
 refine bD hx λa r e2r ha hr=>?_
 subst e2r
 refine bD hy λb r' e2r hb hr'=>?_
 subst e2r
 show(if a=b then jt true r r' else jt false a b).isSome=true
 by_cases e:a=b
 ·rw[if_pos e]; exact y1 (λa b h h' J=>(JK a b h h').2) r r' hr hr'
 ·rw[if_neg e]; exact(JK a b ha hb).2
theorem EI(k:KD):gS true k<=gS false k:=by
 cases k with
 | cons a b=>exact cr _
 | _=>exact aH _
inductive EK(ks:List KD):Prop
 | nums (h:∀k∈ks,PI k)
 | txts (h:∀k∈ks,PS k)
 | recs (h:∀k∈ks,PA k/\gS false k<=6)
theorem EK.sub{ks ls:List KD}(h:EK ks)(hs:∀k∈ls,k∈ks):EK ls:=by
 cases h with
 | nums h=>exact .nums λk hk=>h k (hs k hk)
 | txts h=>exact .txts λk hk=>h k (hs k hk)
 | recs h=>exact .recs λk hk=>h k (hs k hk)
theorem EK.ecl{ks:List KD}(h:EK ks):ECl ks:=by
 cases h with
 | nums h=>exact .nums h
 | txts h=>exact .txts h
 | recs h=>
  refine .tups λk hk=>⟨?_,Z (h k hk).2 (by simp)⟩
  obtain⟨_,r,rfl,⟨a,rfl⟩,_⟩:=(h k hk).1
  rfl
theorem EK.scl{ks:List KD}(h:EK ks)(hn:ks.Nodup):wt ks:=by
 cases h with
 | nums h=>exact .nums h
 | txts h=>exact .txts h
 | recs h=>
  refine .tups true ⟨hn,λx hx y hy J=>(JK x y (h x hx).1 (h y hy).1).1,λk hk=>?_,λk hk=>Z (EI k) (h k hk).2⟩
  obtain⟨_,r,rfl,⟨a,rfl⟩,_⟩:=(h k hk).1
  rfl
theorem sclB{ks:List KD}(h:∀k∈ks,PB k/\gS false k<=6)(hn:ks.Nodup):wt ks:=by
 refine .tups false ⟨hn,λx hx y hy J=>cmpB x y (h x hx).1 (h y hy).1,λk hk=>?_,λk hk=>Z (EI k) (h k hk).2⟩
 obtain⟨_,r,rfl,⟨_,_,rfl,_⟩,_⟩:=(h k hk).1
 rfl
noncomputable def jR(chk:TV->Bool->Bool)(l:TV)(b:Bool):Bool:=
 TV.rec (motive:=λJ=>Bool) false false (λJ=>false) (λJ=>false) (λJ=>false) (λJ=>false) (λJ J=>false) (λJ=>false) (λJ=>false) (λJ=>false) b (λx J J ih=>chk x ih) l
noncomputable def oa(x:TV)(b:Bool):Bool:=na x (λJ=>b) (λJ=>b) (λJ=>false) (λJ=>false) (λJ=>false)
noncomputable def wa(x:TV)(b:Bool):Bool:=na x (λJ=>false) (λJ=>false) (λJ=>b) (λJ=>false) (λJ=>false)
noncomputable def Ap(x:TV)(b:Bool):Bool:=gQ x λds=>bW false (λh r=>wa h (jR oa r b)) ds
noncomputable def JM(x:TV)(b:Bool):Bool:=gQ x λds=>bW false (λh r=>Ap h (jR Ap r b)) ds
def K3(G:b6)(d:Nat)(chk:TV->Bool->Bool)(P:KD->Prop):Prop:=∀x b,chk x b=true->P (x.kd G false d)/\kv (x.kd G false d)=x.den G/\b=true
theorem kC{G:b6}{d:Nat}{chk:TV->Bool->Bool}{P:KD->Prop}(hc:K3 G d chk P){b:Bool}{l:TV}:jR chk l b=true->(∀k∈l.kl G d,P k)/\uA P (l.kd G true d)/\kvs (l.kd G true d)=l.dens G/\kv (l.kd G true d)=.tup (l.dens G)/\f7 G d l/\b=true:=by
 induction l with
 | nil=>exact @λh=>⟨λJ q=>(by cases q),trivial,rfl,rfl,rfl,h⟩
 | cons x r _ ih=>
  intro h
  refine sE (hc _ _ h) λh1 h2 h=>?_
  refine GU (ih h) λa1 a2 a3 J a5 a6=>?_
  refine⟨λk hk=>?_,⟨h1,a2⟩,?_,?_,?_,a6⟩
  ·rcases aE.mp (show k∈x.kd G false d::r.kl G d from hk) with rfl | hk
   ·exact h1
   ·exact a1 k hk
  ·show kv _::kvs _=_::_; rw[h2,a3]
  ·show V.tup (kv _::kvs _)=V.tup (_::_); rw[h2,a3]
  ·show kv _::(r.kl G d).map kv=_::_; rw[h2]; exact congrArg _ a5
 | _=>exact @λh=>nt h
theorem wc{G:b6}{d:Nat}:K3 G d oa PI:=λx b h=>by
 cases x with
 | nat n=>exact⟨⟨_,rfl⟩,rfl,h⟩
 | neg n=>exact⟨⟨_,rfl⟩,rfl,h⟩
 | _=>exact nt h
theorem v9{G:b6}{d:Nat}:K3 G d wa PS:=λx b h=>by
 cases x with
 | str n=>exact⟨⟨_,rfl⟩,rfl,h⟩
 | _=>exact nt h
theorem we{G:b6}{d:Nat}:K3 G (d+1) Ap PA:=λx b h=>by
 refine aM (dl (v:=x) h) λds e1r h=>?_
 subst e1r
 rcases bt (l:=ds) (n:=false) (c:=λh r=>wa h (jR oa r b)) h with ⟨_,h⟩ | ⟨a,r,rfl,h⟩
 ·exact nt h
 ·refine sE (v9 (G:=G) (d:=d) _ _ h) λh1 h2 h=>?_
  refine GU (kC (G:=G) (d:=d) wc h) λJ a2 a3 J J a6=>?_
  exact⟨(bX _ _ rfl h1 a2),by show V.tup (kv _::kvs _)=V.tup (_::_); rw[h2,a3],a6⟩
theorem Hw{G:b6}{d:Nat}:K3 G (d+2) JM PB:=λx b h=>by
 refine aM (dl (v:=x) h) λds e1r h=>?_
 subst e1r
 rcases bt (l:=ds) (n:=false) (c:=λh r=>Ap h (jR Ap r b)) h with ⟨_,h⟩ | ⟨a,r,rfl,h⟩
 ·exact nt h
 ·refine sE (we (G:=G) (d:=d) _ _ h) λh1 h2 h=>?_
  refine GU (kC (G:=G) (d:=d+1) we h) λJ a2 a3 J J a6=>?_
  exact⟨(bX _ _ rfl h1 a2),by show V.tup (kv _::kvs _)=V.tup (_::_); rw[h2,a3],a6⟩
noncomputable def KV(l:TV)(b:Bool):Bool:=bW b (λx J=>na x (λJ=>jR oa l b) (λJ=>jR oa l b) (λJ=>jR wa l b) (λJ=>jR Ap l b) (λJ=>false)) l
theorem A6{G:b6}(o:cM G){d:Nat}(l:TV):yj (l.kl G d)/\∀k∈l.kl G d,gS false k<=d+1:=by
 induction l with
 | cons a b _ ih=>
  refine Kx (A8 o a d) λa1 J a3 J=>⟨λk hk=>?_,λk hk=>?_⟩
  ·exact(aE.mp hk).elim (λe=>e▸a1) (ih.1 k)
  ·exact(aE.mp hk).elim (λe=>e▸a3) (ih.2 k)
 | _=>exact⟨λJ h=>(nomatch h),λJ h=>(nomatch h)⟩
theorem Ht{G:b6}(o:cM G){l:TV}{b:Bool}(h:KV l b=true):EK (l.kl G 4)/\f7 G 4 l/\b=true:=by
 rcases bt (l:=l) (n:=b) (c:=λx J=>na x (λJ=>jR oa l b) (λJ=>jR oa l b) (λJ=>jR wa l b) (λJ=>jR Ap l b) (λJ=>false)) h with ⟨rfl,h⟩ | ⟨x,r,e,h⟩
 ·exact⟨.nums λJ q=>(by cases q),rfl,h⟩
 ·have hI:jR oa l b=true->EK (l.kl G 4)/\f7 G 4 l/\b=true:=λh=>by
   refine GU (kC (G:=G) (d:=4) wc h) λa1 J J J a5 a6=>?_
   exact⟨.nums a1,a5,a6⟩
  cases x with
  | nat _=>exact hI h
  | neg _=>exact hI h
  | str _=>
   refine GU (kC (G:=G) (d:=4) v9 h) λa1 J J J a5 a6=>?_
   exact⟨.txts a1,a5,a6⟩
  | tup _=>
   refine GU (kC (G:=G) (d:=4) we h) λa1 J J J a5 a6=>?_
   exact⟨.recs λk hk=>⟨a1 k hk,Z ((A6 o l).2 k hk) (by decide)⟩,a5,a6⟩
  | _=>exact nt h
theorem vU{G:b6}{d:Nat}:∀l:TV,(l.kl G d).length=jK l
 | .cons _ b=>congrArg bf (vU b)
 | .unset | .none | .bool _ | .nat _ | .neg _ | .str _ | .tup _ | .ref _ | .val _ | .rng _ | .nil=>rfl
theorem uN(ks:List KD):(mV ks).length<=ks.length:=by
 have:∀(l acc:List KD),(l.foldl fE acc).length<=acc.length+l.length:=by
  intro l
  induction l with
  | nil=>intro acc; exact ad _
  | cons k r ih=>
   intro acc
   have h1:=ih (fE acc k)
   have h2:(fE acc k).length<=acc.length+1:=by
    unfold fE
    split
    ·exact cr _
    ·simp
   exact Z h1 (Z (eP h2 _) (am (aV _ _)))
 have:=this ks []
 simp only[um,el] at this
 exact this
section
variable{C:Cx}{G:b6}{sc:Scope}{n:Nat}{ns:List (Str×Bool)}
structure fX(C:Cx)(sc:Scope)(x:Str)(v:Value):Prop where
 kind:sc.names.lookup x=some .globalImplicit
 no:nsIn C.K mainGlobals x=some ax
 boot:bootBuiltins x=some v
 nn:x≠"__name__"
 nd:(x==("__debug__":Str))=false
theorem j6{X:bc}{W:En}{l:Loc}{σ:aK}{Q:V->aK->Prop}{x:Str} {pos}{v:Value}(b:fX C W.sc x v)(h:Q (.val v) σ):SE C X W (.Name x pos) l σ Q:=AO b.kind b.no b.boot b.nn h b.nd
theorem DM{x:Str} {np pos}{args:List Expr}{v:Value}{r:RF}{a:RE}(hv:MV C G v r)(b:fX C sc x v)(hk:bI C (.val v))(hs:dP args=true)(ha:ML C G sc n ns args a):ME C G sc n ns (.Call (.Name x np) args [] pos) (aO r a):=λW l env s k h1 h2 h3 h4 hr=>
 c9 hs (j6 (h1▸b) ⟨hk,ha.go h1 h2 h3 h4 hr λv s' J q=>by
  exact hv W v s' k h2 q⟩)
noncomputable def DW(v:TV)(s:St)(c:TV->Bool):Bool:=dw v s λJ ds=>KV ds (cW (bm (jK ds) 50) (Iy 4 ds .nil c))
theorem wU(o:cM G){v:TV}{s:St}{c:TV->Bool}(h:DW v s c=true):∃ks:List KD,IsL (s.den G) (v.den G) (ks.map kv)/\yj ks/\ECl ks/\ks.length<60/\∃l',l'.kl G 4=mV ks/\f7 G 4 l'/\EK (mV ks)/\c l'=true:=by
 obtain⟨p,ds,rfl,hp,h⟩:=cG G h
 refine sE (Ht o h) λh1 h2 h=>?_
 obtain⟨h3,h⟩:=bO h
 refine lL (Fz o h) λl' f1 f2 f3=>?_
 refine⟨ds.kl G 4,by rw[show(ds.kl G 4).map kv=ds.dens G from h2]; exact IsL.ref hp,(A6 o ds).1,h1.ecl,?_,l',f1,f2 h2 rfl,h1.sub λk hk=>uM hk,f3⟩
 rw[vU]; exact ah (N h3) (by simp)
noncomputable def mK(a:RE):RE:=λenv s k=>a env s λv s=>DW v s λl=>sj 4 l λl'=>s.push (.list l') λp s=>k (.ref p) s
theorem lF{np np2 pos p2}{e:Expr}{a:RE}(o:cM G)(b1:fX C sc "sorted" (.builtin "sorted"))(b2:fX C sc "set" (.type "set"))(hs:dW e=true)(ha:ME C G sc n ns e a) :
  ME C G sc n ns (.Call (.Name "sorted" np) [.Call (.Name "set" np2) [e] [] p2] [] pos) (mK a):=λW l env s k h1 h2 h3 h4 hr=>
 c9 rfl (j6 (h1▸b1) ⟨bI.builtin,SL.cons rfl (c9 (by simpa [dP] using hs) (j6 (h1▸b2) ⟨bI.type,SL.cons hs (ha.go h1 h2 h3 h4 hr λv s' q=>by
  obtain⟨ks,q1,q2,q3,q4,l',f1,f2,f3,q⟩:=wU o q
  refine lL (oU o q) λl'' g1 g2 q=>?_
  refine bD (cy G q) λp s'' e1 e2 q=>?_
  refine SL.nil (AP h2 q1 q2 q3 q4 (SL.nil (tR h2 (λk hk=>q2 k (uM hk)) (f3.scl (xR ks)) (by have:=uN ks; exact lc 0 0 0 59 1 64 this (l1 1 60 0 59 q4 rfl) rfl) ?_)))
  refine bX (.ref p) s'' (by rw[<-e1]; rfl) ?_ q
  simp only[e2,<-f1,<-g1]
  show _=aK.push _ (O.list (l''.dens G))
  rw[<-show(l''.kl G 4).map kv=l''.dens G from g2 f2])⟩))⟩)
noncomputable def vE(a:RE):RE:=λenv s k=>a env s λv s=>DW v s λl=>k (.nat (jK l)) s
theorem uu{np np2 pos p2}{e:Expr}{a:RE}(o:cM G)(b1:fX C sc "len" (.builtin "len"))(b2:fX C sc "set" (.type "set"))(hs:dW e=true)(ha:ME C G sc n ns e a) :
  ME C G sc n ns (.Call (.Name "len" np) [.Call (.Name "set" np2) [e] [] p2] [] pos) (vE a):=λW l env s k h1 h2 h3 h4 hr=>
 c9 rfl (j6 (h1▸b1) ⟨bI.builtin,SL.cons rfl (c9 (by simpa [dP] using hs) (j6 (h1▸b2) ⟨bI.type,SL.cons hs (ha.go h1 h2 h3 h4 hr λv s' q=>by
  obtain⟨ks,q1,q2,q3,q4,l',f1,f2,f3,q⟩:=wU o q
  refine SL.nil (AP h2 q1 q2 q3 q4 (SL.nil (yI (by rw[ar]; have:=uN ks; exact lc 0 0 0 59 0 1000000 this (l1 1 60 0 59 q4 rfl) rfl) ?_)))
  exact bX (.nat (jK l')) s' (by rw[ar,<-f1,vU]; rfl) rfl q)⟩))⟩)
noncomputable def JL(l:TV)(b:Bool):Bool:=bW b (λx J=>na x (λJ=>jR oa l b) (λJ=>jR oa l b) (λJ=>jR wa l b) (λJ=>false) (λJ=>false)) l
theorem Hu{G:b6}{l:TV}{b:Bool}(h:JL l b=true):wt (l.kl G 4)/\f7 G 4 l/\b=true:=by
 rcases bt (l:=l) (n:=b) (c:=λx J=>na x (λJ=>jR oa l b) (λJ=>jR oa l b) (λJ=>jR wa l b) (λJ=>false) (λJ=>false)) h with ⟨rfl,h⟩ | ⟨x,r,e,h⟩
 ·exact⟨.nums λJ q=>(by cases q),rfl,h⟩
 ·have hI:jR oa l b=true->wt (l.kl G 4)/\f7 G 4 l/\b=true:=λh=>by
   refine GU (kC (G:=G) (d:=4) wc h) λa1 J J J a5 a6=>?_
   exact⟨.nums a1,a5,a6⟩
  cases x with
  | nat _=>exact hI h
  | neg _=>exact hI h
  | str _=>
   refine GU (kC (G:=G) (d:=4) v9 h) λa1 J J J a5 a6=>?_
   exact⟨.txts a1,a5,a6⟩
  | _=>exact nt h
noncomputable def A7(r:TV):(TV->Bool)->Bool:=
 TV.rec (motive:=λJ=>(TV->Bool)->Bool) (λJ=>false) (λJ=>false) (λJ J=>false) (λJ J=>false) (λJ J=>false) (λJ J=>false) (λJ J J=>false) (λJ J=>false) (λJ J=>false) (λJ J=>false)
  (λc=>c .nil) (λp J J ih c=>bW false (λk J=>gQ k λJ=>ih λl=>c (.cons k l)) p) r
theorem EG{G:b6}{r:TV}:∀{c:TV->Bool},A7 r c=true->∃l,l.kl G 5=(r.sk G (ud G)).map (·.1)/\c l=true:=by
 induction r with
 | nil=>exact @λc h=>(a0 _ rfl h)
 | cons p r _ ih=>
  intro c h
  rcases bt (l:=p) (n:=false) (c:=λk J=>gQ k λJ=>A7 r λl=>c (.cons k l)) h with ⟨_,h⟩ | ⟨k,v,rfl,h⟩
  ·exact nt h
  ·refine aM (dl (v:=k) h) λds e1r h=>?_
   subst e1r
   refine aM (ih h) λl h1 h2=>?_
   exact a0 (.cons (.tup ds) l) (congrArg (TV.kd G ds true 4::·) h1) h2
 | _=>exact @λJ h=>nt h
noncomputable def o7:RF:=λa s k=>lu a λv=>na v (λJ=>false) (λJ=>false) (λJ=>false) (λJ=>false) λp=>s.at p λo=>TO.rec (motive:=λJ=>Bool)
 (λds=>JL ds (cW (bm (jK ds) 50) (sj 4 ds λl=>s.push (.list l) λp s=>k (.ref p) s)))
 (λc r=>oR r c 2 (cW (bm (jK r) 50) (A7 r λl=>jR JM l (sj 5 l λl=>s.push (.list l) λp s=>k (.ref p) s)))) (λJ J=>false) (λJ=>false) (λJ=>false) o
theorem m9(o:cM G)(hP:G.P=C.w.params):MV C G (.builtin "sorted") o7:=λW a s k hc h=>by
 refine aM (fN h) λv e1r h=>?_
 rw[e1r]
 cases v with
 | ref p=>
  obtain⟨ob,ho,h⟩:=d8 G (k:=λo=>TO.rec (motive:=λJ=>Bool)
   (λds=>JL ds (cW (bm (jK ds) 50) (sj 4 ds λl=>s.push (.list l) λp s=>k (.ref p) s)))
   (λc r=>oR r c 2 (cW (bm (jK r) 50) (A7 r λl=>jR JM l (sj 5 l λl=>s.push (.list l) λp s=>k (.ref p) s)))) (λJ J=>false) (λJ=>false) (λJ=>false) o) h
  show SC C .none W (s.den G) _ [.ref p.num] _
  cases ob with
  | list ds=>
   refine sE (Hu (G:=G) h) λh1 h2 h=>?_
   obtain⟨h3,h⟩:=bO h
   refine lL (oU o h) λl f1 f2 h=>?_
   refine bD (cy G h) λq s' e1 e2 h=>?_
   refine yE (ks:=ds.kl G 4) (IsL.ref ((show(ds.kl G 4).map kv=ds.dens G from h2)▸ho)) (A6 o ds).1 h1 (by rw[vU]; exact ah (N h3) (by decide)) (bX (.ref q) s' (by rw[<-e1]; rfl) ?_ h)
   rw[e2,<-f1]
   show _=aK.push _ (O.list (l.dens G))
   rw[<-show(l.kl G 4).map kv=l.dens G from f2 h2]
  | dict c r=>
   obtain⟨e,h⟩:=iK (G:=G) h
   obtain⟨h3,h⟩:=bO h
   refine aM (EG (G:=G) h) λl f1 h=>?_
   refine GU (kC (G:=G) (d:=5) Hw h) λg1 J J J g5 h=>?_
   refine lL (oU o h) λl' f2 f3 h=>?_
   refine bD (cy G h) λq s' e1 e2 h=>?_
   have ho:(s.den G).get p.num=some (dO G.P (t0 G c r)):=ho
   rw[hP,e] at ho
   refine SC.nodup ho λhn=>?_
   have hn':=(gp.nodup (lH o r)).mp hn
   refine rV (sk:=r.sk G (ud G)) hc (lH o r) ho ?_ (ah (sn r) (ah (N h3) (by decide))) (bX (.ref q) s' (by rw[<-e1]; rfl) ?_ h)
   ·rw[<-f1] at hn' ⊢
    exact sclB (λk hk=>⟨g1 k hk,(A6 o l).2 k hk⟩) hn'
   ·simp only[e2,<-f1,<-f2]
    show _=aK.push _ (O.list (l'.dens G))
    rw[<-show(l'.kl G 5).map kv=l'.dens G from f3 g5]
  | _=>exact nt h
 | _=>exact nt h
noncomputable def vX(r:TV):(TV->Bool)->Bool:=
 TV.rec (motive:=λJ=>(TV->Bool)->Bool) (λJ=>false) (λJ=>false) (λJ J=>false) (λJ J=>false) (λJ J=>false) (λJ J=>false) (λJ J J=>false) (λJ J=>false) (λJ J=>false) (λJ J=>false)
  (λc=>c .nil) (λp J J ih c=>bW false (λk v=>wa k (oa v (ih λl=>c (.cons (.tup (.cons k (.cons v .nil))) l)))) p) r
theorem Cu{G:b6}{r:TV}:∀{c:TV->Bool},vX r c=true->∃l,∃sk:List (Str×Int),r.sk G (mN G)=sk.map (λp=>(p.1,V.int p.2))/\l.kl G 4=sk.map mP/\f7 G 4 l/\c l=true:=by
 induction r with
 | nil=>exact @λc h=>(Im .nil [] rfl rfl rfl h)
 | cons p r _ ih=>
  intro c h
  rcases bt (l:=p) (n:=false) (c:=λk v=>wa k (oa v (vX r λl=>c (.cons (.tup (.cons k (.cons v .nil))) l)))) h with ⟨_,h⟩ | ⟨k,v,rfl,h⟩
  ·exact nt h
  ·cases k with
   | str i=>
    have go:∀m:Int,v.kd G false 3=.i m->v.den G=.int m->vX r (λl=>c (.cons (.tup (.cons (.str i) (.cons v .nil))) l))=true->∃l,∃sk:List (Str×Int),(TV.cons (.cons (.str i) v) r).sk G (mN G)=sk.map (λp=>(p.1,V.int p.2))/\l.kl G 4=sk.map mP/\f7 G 4 l/\c l=true:=λm e1 e2 h=>by
     refine J4 (ih h) λl sk h1 h2 h3 h4=>?_
     refine Im (.cons (.tup (.cons (.str i) (.cons v .nil))) l) ((G.str i,m)::sk) ?_ ?_ ?_ h4
     ·show(G.str i,v.den G)::r.sk G (mN G)=_
      rw[e2,h1]; rfl
     ·show KD.cons (.s (G.str i)) (.cons (v.kd G false 3) .nil)::l.kl G 4=_
      rw[e1,h2]; rfl
     ·show V.tup [.str (G.str i),kv (v.kd G false 3)]::(l.kl G 4).map kv=V.tup [.str (G.str i),v.den G]::l.dens G
      rw[e1,e2]
      exact congrArg _ h3
    cases v with
    | nat m=>exact go m rfl rfl h
    | neg m=>exact go (ce m) rfl rfl h
    | _=>exact nt h
   | _=>exact nt h
 | _=>exact @λJ h=>nt h
theorem Ct{sk:List (Str×Int)}(hn:(sk.map (·.1)).Nodup):wt (sk.map mP):=by
 refine EK.scl (.recs λk hk=>?_) ?_
 ·refine aM (a8.mp hk) λp J e2r=>?_
  subst e2r
  exact⟨⟨_,_,rfl,⟨_,rfl⟩,⟨_,rfl⟩,trivial⟩,by show max 0 (max (max 0 0) 0)+1<=6; decide⟩
 ·induction sk with
  | nil=>simp
  | cons p r ih=>
   rw[bQ,fH] at hn ⊢
   refine⟨λq=>hn.1 ?_,ih hn.2⟩
   refine aM (a8.mp q) λy hy e=>?_
   have:y.1=p.1:=by
    unfold mP at e
    injection e with e _
    injection e
   exact this▸a8.mpr (a0 y hy rfl)
noncomputable def D9(a:RE):RE:=λenv s k=>a env s λv s=>iA v s λJ c r=>oR r c 0 (cW (bm (jK r) 50) (vX r λl=>sj 4 l λl=>s.push (.list l) λp s=>k (.ref p) s))
theorem vf{np ap pos p2}{o:Expr}{a:RE}{pl:Env->Sem Bool}(ok:cM G)(hP:G.P=C.w.params)(b1:fX C sc "sorted" (.builtin "sorted"))
  (he:∀env,eval (.Call (.Attribute o "items" ap) [] [] p2) env=(do
   let ov <-eval o env
   standAt ap.atName
   let (f,first) <-holding [ov] (getMethod ov "items" (pl env))
   callWith p2 f first (backTo p2 (starEach [] env)) (backToKw p2 (keywordEach [] env))))(ha:ME C G sc n ns o a) :
  ME C G sc n ns (.Call (.Name "sorted" np) [.Call (.Attribute o "items" ap) [] [] p2] [] pos) (D9 a):=λW l env s k h1 h2 h3 h4 hr=>
 c9 rfl (j6 (h1▸b1) ⟨bI.builtin,SL.cons rfl (SE.meth rfl he (ha.go h1 h2 h3 h4 hr λv s' q=>by
  obtain⟨p,c,r,rfl,hp,q⟩:=gR G q
  obtain⟨e,q⟩:=iK (G:=G) q
  obtain⟨h5,q⟩:=bO q
  refine J4 (Cu (G:=G) q) λl sk g1 g2 g3 q=>?_
  refine lL (oU ok q) λl' f2 f3 q=>?_
  refine bD (cy G q) λz s'' e1 e2 q=>?_
  rw[hP,e] at hp
  have hp':(s'.den G).get p.num=some (dO C.w.params (i3 V.str (sk.map λp=>(p.1,V.int p.2)))):=by rw[<-g1]; exact hp
  refine SM.dictO hp PySem.F.slot_dict_items PySem.F.type_dict_items ⟨bI.builtin,SL.nil (SC.nodup hp λhn=>?_)⟩
  have hn':(sk.map (·.1)).Nodup:=by
   have h0:=(nY (encStr C.prog C.w).inj).mp (by rw[<-g1]; exact hn:((i3 V.str (sk.map λp=>(p.1,V.int p.2))).map (·.1)).Nodup)
   rwa [ef] at h0
  have hlen:sk.length<64:=by
   have h0:=sn (G:=G) (key:=mN G) r
   rw[g1,ar] at h0
   exact ah h0 (ah (N h5) (by simp))
  refine DF hp' (SL.nil (rU h2 hp' (λp hp=>?_) (Ct hn') hlen (bX (.ref z) s'' (by rw[<-e1]; rfl) ?_ q)))
  ·have:∀(r:TV)(x:Str×V),x∈r.sk G (mN G)->cE x.1=true:=by
    intro r
    induction r with
    | cons a b _ ih=>
     intro x hx
     cases a with
     | cons k v=>
      rcases aE.mp (show x∈(mN G k,v.den G)::b.sk G (mN G) from hx) with rfl | hx
      ·cases k<;>exact ok.ok _
      ·exact ih x hx
     | _=>cases hx
    | _=>intro x hx; cases hx
   exact this r (p.1,V.int p.2) (by rw[g1]; exact a8.mpr (a0 p hp rfl))
  ·simp only[e2,<-g2,<-f2]
   show _=aK.push _ (O.list (l'.dens G))
   rw[<-show(l'.kl G 4).map kv=l'.dens G from f3 g3]))⟩)
end
section
variable{C:Cx}{G:b6}{sc:Scope}{n:Nat}{ns:List (Str×Bool)}
theorem M1.any{st:Stmt}:M1 C G sc n ns st (λJ J J J=>false):=λJ J J J J J J J J J h=>nt h
theorem MF.any{f:Addr}{n:Nat}:MF C G f n (λJ J J=>false):=λJ J J J J J h=>nt h
noncomputable def qN(v:TV)(s:St)(k:TV->Bool):Bool:=na v (λJ=>false) (λJ=>false) (λJ=>false) k (λp=>s.at p λo=>TO.rec (motive:=λJ=>Bool) k (λJ J=>false) (λJ J=>false) (λJ=>false) (λJ=>false) o)
theorem mY(G:b6){v:TV}{s:St}{k:TV->Bool}(h:qN v s k=true):∃ds,(v=.tup ds∨(∃p,v=.ref p/\(s.den G).get p.num=some (.list (ds.dens G))))/\k ds=true:=by
 cases v with
 | tup ds=>exact a0 ds (.inl rfl) h
 | ref p=>
  refine aM (d8 G (k:=λo=>TO.rec (motive:=λJ=>Bool) k (λJ J=>false) (λJ J=>false) (λJ=>false) (λJ=>false) o) h) λo ho h=>?_
  cases o with
  | list ds=>exact a0 ds (.inr ⟨p,rfl,ho⟩) h
  | _=>exact nt h
 | _=>exact nt h
noncomputable def fZ:RF:=λa s k=>lu a λv=>qN v s λds=>eR ds (k (.nat (jK ds)) s)
theorem MV.len:MV C G (.builtin "len") fZ:=λW a s k hc h=>by
 refine aM (fN h) λv e1r h=>?_
 rw[e1r]
 refine aM (mY G h) λds hv h=>?_
 refine eV (dt (G:=G) h) λh1 h=>?_
 have hz:(ds.dens G).length<=1000000:=Z h1 (by simp)
 have q:Tells G k (.int ((ds.dens G).length:Nat)) (s.den G):=(bX (.nat (jK ds)) s (by rw[pg]; rfl) rfl h)
 rcases hv with rfl | ⟨p,rfl,hp⟩
 ·exact BV hz q
 ·exact rX (IsL.ref hp) hz q
noncomputable def i9:RF:=λa s k=>lu a λv=>qN v s λds=>eR ds (k (.tup ds) s)
theorem MV.tuple:MV C G (.type "tuple") i9:=λW a s k hc h=>by
 refine aM (fN h) λv e1r h=>?_
 rw[e1r]
 refine aM (mY G h) λds hv h=>?_
 refine eV (dt (G:=G) h) λh1 h2=>?_
 rcases hv with rfl | ⟨p,rfl,hp⟩
 ·exact BS (bX (.tup ds) s rfl rfl h2)
 ·exact yD (IsL.ref hp) (Z h1 (by simp)) (bX (.tup ds) s rfl rfl h2)
noncomputable def Ep:RF:=λa s k=>lu a λv=>qN v s λds=>eR ds (s.push (.list ds) λp s=>k (.ref p) s)
theorem MV.list:MV C G (.type "list") Ep:=λW a s k hc h=>by
 refine aM (fN h) λv e1r h=>?_
 rw[e1r]
 refine aM (mY G h) λds hv h=>?_
 refine eV (dt (G:=G) h) λh1 h=>?_
 have hz:(ds.dens G).length<=1000000:=Z h1 (by simp)
 refine bD (cy G h) λq s' e1 e2 h=>?_
 have q:Tells G k (.ref (s.den G).nx) ((s.den G).push (.list (ds.dens G))):=(bX (.ref q) s' (by rw[<-e1]; rfl) (by rw[e2]; rfl) h)
 rcases hv with rfl | ⟨p,rfl,hp⟩
 ·exact yG hz q
 ·exact wI (IsL.ref hp) hz q
noncomputable def pZ:RF:=λa s k=>lu a λv=>gn v λm=>k (.rng m) s
theorem MV.range:MV C G (.type "range") pZ:=λW a s k hc h=>by
 refine aM (fN h) λv e1r h=>?_
 rw[e1r]
 refine aM (dF (v:=v) h) λm e1r h=>?_
 rw[e1r]
 exact SC.range (bX (.rng m) s rfl rfl h)
noncomputable def GF(r:TV):(Nat->Bool)->Bool:=
 TV.rec (motive:=λJ=>(Nat->Bool)->Bool) (λJ=>false) (λJ=>false) (λJ J=>false) (λJ J=>false) (λJ J=>false) (λJ J=>false) (λJ J J=>false) (λJ J=>false) (λJ J=>false) (λJ J=>false)
  (λc=>c 0) (λx J J ih c=>gn x λa=>ih λs=>c (Nat.add a s)) r
theorem AV{G:b6}{r:TV}:∀{c:Nat->Bool},GF r c=true->∃ns:List Nat,r.dens G=(ns.map λn:Nat=>(n:Int)).map V.int/\c ns.sum=true:=by
 induction r with
 | nil=>exact @λc h=>(a0 [] rfl h)
 | cons x r _ ih=>
  intro c h
  refine aM (dF (v:=x) h) λa e1r h=>?_
  rw[e1r]
  refine aM (ih h) λns h1 h2=>?_
  exact a0 (a::ns) (congrArg (V.int a::·) h1) h2
 | _=>exact @λJ h=>nt h
theorem vy:∀ns:List Nat,(ns.map λn:Nat=>(n:Int)).sum=(ns.sum:Nat)
 | []=>rfl
 | n::ns=>by rw[bQ,ji,ji,vy ns]; rfl
theorem KP{ns:List Nat}(h:ns.sum<=1000000000):Bu (ns.map λn:Nat=>(n:Int)):=λj hj=>by
 have hs:∀(l:List Nat)(j:Nat),(l.take j).sum<=l.sum:=by
  intro l
  induction l with
  | nil=>intro j; simp
  | cons a l ih=>intro j; cases j with
   | zero=>simp
   | succ j=>rw[List.take_succ_cons,ji,ji]; have:=ih j; exact au ‹_› _
 have hm:∀(l:List Nat)(j:Nat),l.getD j 0<=l.sum:=by
  intro l
  induction l with
  | nil=>intro j; simp
  | cons a l ih=>intro j; cases j with
   | zero=>simp
   | succ j=>rw[ji]; exact Z (ih j) (ie _ _)
 constructor
 ·have e:(ns.map λn:Nat=>(n:Int)).getD j 0=((ns.getD j 0:Nat):Int):=by
   simp only[bL,bB]
   cases ns[j]?<;>rfl
  rw[e]
  have:=hm ns j
  exact⟨gH (by decide) (cY _),ii (gG.mpr (Z this h)) (by decide)⟩
 ·rw[<-Kb,vy]
  have:=hs ns (j+1)
  exact⟨gH (by decide) (cY _),ii (gG.mpr (Z this h)) (by decide)⟩
noncomputable def vN:RF:=λa s k=>lu a λv=>qN v s λds=>GF ds λm=>cW (bm m 1000000000) (k (.nat m) s)
theorem MV.sum:MV C G (.builtin "sum") vN:=λW a s k hc h=>by
 refine aM (fN h) λv e1r h=>?_
 rw[e1r]
 refine aM (mY G h) λds hv h=>?_
 refine aM (AV (G:=G) h) λms e h=>?_
 obtain⟨h1,h⟩:=bO h
 have hf:=KP (N h1)
 have q:Tells G k (.int (ms.map λn:Nat=>(n:Int)).sum) (s.den G):=(bX (.nat ms.sum) s (by rw[vy]; rfl) rfl h)
 rcases hv with rfl | ⟨p,rfl,hp⟩
 ·show SC C .none W (s.den G) _ [.tup (ds.dens G)] _
  rw[e]; exact BT hc hf q
 ·exact rT hc (IsL.ref ((e).symm▸hp)) hf q
noncomputable def Jt(r:TV):Nat->(Nat->Bool)->Bool:=
 TV.rec (motive:=λJ=>Nat->(Nat->Bool)->Bool) (λJ J=>false) (λJ J=>false) (λJ J J=>false) (λJ J J=>false) (λJ J J=>false) (λJ J J=>false) (λJ J J J=>false) (λJ J J=>false) (λJ J J=>false) (λJ J J=>false)
  (λb c=>c b) (λx J J ih b c=>gn x λa=>ih (Bool.rec b a (bm b a)) c) r
theorem G0{G:b6}{r:TV}:∀{b:Nat}{c:Nat->Bool},Jt r b c=true->∃ns:List Nat,r.dens G=(ns.map λn:Nat=>(n:Int)).map V.int/\∃m,(m=b∨m∈ns)/\b<=m/\(∀a∈ns,a<=m)/\c m=true:=by
 induction r with
 | nil=>exact @λb c h=>⟨[],rfl,b,.inl rfl,ad _,λJ h=>(by cases h),h⟩
 | cons x r _ ih=>
  intro b c h
  refine aM (dF (v:=x) h) λa e1r h=>?_
  rw[e1r]
  obtain⟨ns,h1,m,h2,h3,h4,h5⟩:=ih h
  refine⟨a::ns,congrArg (V.int a::·) h1,m,?_,?_,?_,h5⟩
  ·cases q:bm b a with
   | true=>
    rw[q] at h2
    rcases h2 with h2 | h2
    ·exact .inr (by rw[h2]; exact .head _)
    ·exact .inr (.tail _ h2)
   | false=>
    rw[q] at h2
    rcases h2 with h2 | h2
    ·exact .inl h2
    ·exact .inr (.tail _ h2)
  ·cases q:bm b a with
   | true=>rw[q] at h3; exact Z (N q) h3
   | false=>rw[q] at h3; exact h3
  ·intro y hy
   rcases aE.mp hy with rfl | hy
   ·cases q:bm b y with
    | true=>rw[q] at h3; exact h3
    | false=>
     rw[q] at h3
     have:¬b<=y:=λe=>by rw[fP e] at q; cases q
     exact Z (Nat.le_of_not_le this) h3
   ·exact h4 y hy
 | _=>exact @λJ J h=>nt h
noncomputable def Je:RF:=λa s k=>lu a λv=>dw v s λJ ds=>bW false (λx r=>gn x λb=>Jt r b λm=>k (.nat m) s) ds
theorem DI:MV C G (.builtin "max") Je:=λW a s k hc h=>by
 refine aM (fN h) λv e1r h=>?_
 subst e1r
 obtain⟨p,ds,rfl,hp,h⟩:=cG G h
 rcases bt (l:=ds) (n:=false) (c:=λx r=>gn x λb=>Jt r b λm=>k (.nat m) s) h with ⟨_,h⟩ | ⟨x,r,rfl,h⟩
 ·exact nt h
 ·refine aM (dF (v:=x) h) λb e1r h=>?_
  subst e1r
  obtain⟨ms,e,m,h1,h2,h3,h⟩:=G0 (G:=G) h
  refine yF (ns:=(b::ms).map λn:Nat=>(n:Int)) (m:=(m:Int)) hc (IsL.ref (by rw[hp]; show some (O.list (V.int b::r.dens G))=_; rw[e]; rfl)) ?_ ?_ (bX (.nat m) s rfl rfl h)
  ·refine a8.mpr (a0 m ?_ rfl)
   rcases h1 with rfl | h1
   ·exact .head _
   ·exact .tail _ h1
  ·intro a ha
   refine aM (a8.mp ha) λy hy e2r=>?_
   subst e2r
   rcases aE.mp hy with rfl | hy
   ·exact gG.mpr h2
   ·exact gG.mpr (h3 y hy)
noncomputable def Eu(r:TV):TV->(TV->Bool)->Bool:=
 TV.rec (motive:=λJ=>TV->(TV->Bool)->Bool) (λJ J=>false) (λJ J=>false) (λJ J J=>false) (λJ J J=>false) (λJ J J=>false) (λJ J J=>false) (λJ J J J=>false) (λJ J J=>false) (λJ J J=>false) (λJ J J=>false)
  (λb c=>c b) (λx J J ih b c=>Io x b λq=>Bool.rec (ih b c) (ih x c) q) r
theorem GY{G:b6}{r:TV}:∀{b:TV}{c:TV->Bool}{bi:Int},b.den G=.int bi->Eu r b c=true->∃ns:List Int,r.dens G=ns.map V.int/\∃m mi,m.den G=.int mi/\(mi=bi∨mi∈ns)/\mi<=bi/\(∀a∈ns,mi<=a)/\c m=true:=by
 induction r with
 | nil=>exact @λb c bi hb h=>⟨[],rfl,b,bi,hb,.inl rfl,Int.le_refl _,λJ h=>(by cases h),h⟩
 | cons x r _ ih=>
  intro b c bi hb h
  refine bD (sL G (x:=x) (y:=b) (k:=λq=>Bool.rec (motive:=λJ=>Bool) (Eu r b c) (Eu r x c) q) h) λxi bi' e1 e2 h=>?_
  rw[hb] at e2
  injection e2 with e2
  subst e2
  by_cases q:xi<bi
  ·rw[decide_eq_true q] at h
   obtain⟨ns,h1,m,mi,h2,h3,h4,h5,h6⟩:=ih e1 h
   refine⟨xi::ns,by show x.den G::r.dens G=_; rw[e1,h1]; rfl,m,mi,h2,.inr ?_,gH h4 (nu q),?_,h6⟩
   ·rcases h3 with rfl | h3
    ·exact .head _
    ·exact .tail _ h3
   ·intro a ha
    rcases aE.mp ha with rfl | ha
    ·exact h4
    ·exact h5 a ha
  ·rw[decide_eq_false q] at h
   obtain⟨ns,h1,m,mi,h2,h3,h4,h5,h6⟩:=ih hb h
   refine⟨xi::ns,by show x.den G::r.dens G=_; rw[e1,h1]; rfl,m,mi,h2,?_,h4,?_,h6⟩
   ·rcases h3 with rfl | h3
    ·exact .inl rfl
    ·exact .inr (.tail _ h3)
   ·intro a ha
    rcases aE.mp ha with rfl | ha
    ·exact gH h4 (ey.mp q)
    ·exact h5 a ha
 | _=>exact @λJ J J J h=>nt h
noncomputable def EP(v:TV)(b:Bool):Bool:=na v (λJ=>b) (λJ=>b) (λJ=>false) (λJ=>false) (λJ=>false)
theorem EO{v:TV}{b:Bool}(h:EP v b=true):(∃i,v.den G=.int i)/\b=true:=by
 cases v<;>first | exact⟨⟨_,rfl⟩,h⟩ | exact nt h
noncomputable def Kw:RF:=λa s k=>lu a λv=>gQ v λds=>bW false (λx r=>EP x (Eu r x λm=>k m s)) ds
theorem IS:MV C G (.builtin "min") Kw:=λW a s k hc h=>by
 refine aM (fN h) λv e1r h=>?_
 rw[e1r]
 refine aM (dl (v:=v) h) λds e1r h=>?_
 rw[e1r]
 rcases bt (l:=ds) (n:=false) (c:=λx r=>EP x (Eu r x λm=>k m s)) h with ⟨_,h⟩ | ⟨x,r,rfl,h⟩
 ·exact nt h
 ·obtain⟨⟨xi,hx⟩,h⟩:=EO (G:=G) h
  obtain⟨ms,h1,m,mi,h2,h3,h4,h5,h6⟩:=GY (G:=G) hx h
  show SC C .none W (s.den G) _ [.tup (x.den G::r.dens G)] _
  simp only[hx,h1]
  refine BU (ns:=xi::ms) (m:=mi) hc ?_ ?_ (bX m s h2.symm rfl h6)
  ·rcases h3 with rfl | h3
   ·exact .head _
   ·exact .tail _ h3
  ·intro a ha
   rcases aE.mp ha with rfl | ha
   ·exact h4
   ·exact h5 a ha
end
section
variable{C:Cx}{G:b6}{sc:Scope}{n:Nat}{ns:List (Str×Bool)}
theorem SM.tup{X:bc}{W:En}{σ:aK}{ds:List V}{name:Str}{id:String}{QM:V->List V->aK->Prop}(slot:Slot "tuple" name id)(hty:typeOf (.builtin id)=pure (.type "method_descriptor"))(h:QM (.val (.builtin id)) [.tup ds] σ):SM C X W σ (.tup ds) name QM:=λg A L s ov pl R hA hv=>by
 have hv0:=hv
 refine bD hv0 λa vs e2r hg hvs=>?_
 subst e2r
 have ho:=R.froz _ _ hg
 exact getMethod_builtin (a0 _ ho rfl) PySem.F.plainAttrs_tuple slot hty (λb hb=>by cases hb; exact a0 _ ho rfl) ⟨.val (.builtin id),[.tup ds],g,σ,dA.refl g,R,rfl,(bX _ [] rfl hv rfl),h⟩
inductive JW | list | tup | dict
noncomputable def JW.name:JW->String
 | .list=>"list"
 | .tup=>"tuple"
 | .dict=>"dict"
noncomputable def rcv(t:JW)(v:TV)(s:St)(b:Bool):Bool:=
 JW.rec (motive:=λJ=>Bool) (dw v s λJ J=>b) (gQ v λJ=>b) (iA v s λJ J J=>b) t
noncomputable def dD(t:JW)(f:RF)(o a:RE):RE:=λenv s k=>o env s λv s=>rcv t v s (a env s λrow s=>f (.cons v row) s k)
structure wj(t:JW)(name:Str)(id:String):Prop where
 slot:Slot t.name name id
 typ:typeOf (.builtin id)=pure (.type "method_descriptor")
theorem cn{t:JW}{o:Expr}{name:Str}{id:String} {apos pos}{args:List Expr}{pl:Env->Sem Bool}{r:RF}{ro a:RE}(hP:G.P=C.w.params)(hf:MV C G (.builtin id) r)(mb:wj t name id)(hs:dP args=true)
  (he:∀env,eval (.Call (.Attribute o name apos) args [] pos) env=(do
   let ov <-eval o env
   standAt apos.atName
   let (f,first) <-holding [ov] (getMethod ov name (pl env))
   callWith pos f first (backTo pos (starEach args env)) (backToKw pos (keywordEach [] env))))
  (ho:ME C G sc n ns o ro)(ha:ML C G sc n ns args a):ME C G sc n ns (.Call (.Attribute o name apos) args [] pos) (dD t r ro a):=λW l env s k h1 h2 h3 h4 hr=>
 SE.meth hs he (ho.go h1 h2 h3 h4 hr λv s' q=>by
  have fin:∀w:V,w=v.den G->(a env s' λrow s=>r (.cons v row) s k)=true->(λ(f:V)(fs:List V)(aT:aK)=>bI C f/\SL C .none W args l aT λds ez=>SC C .none W ez f (fs++ds) (Tells G k)) (.val (.builtin id)) [w] (s'.den G):=λw e q=>by
   refine⟨bI.builtin,SL.mono (ha W l env s' _ h1 h2 h3 h4 q) λds σ hq=>J4 hq λrow s'' e1 J e2 q=>?_⟩
   rw[e1]; rw[e2]; subst e
   exact hf W (.cons v row) s'' k h2 q
  cases t with
  | list=>
   refine bD (cG G (v:=v) q) λp ds e2r hp q=>?_
   subst e2r
   exact SM.list (IsL.ref hp) mb.slot mb.typ (fin _ rfl q)
  | tup=>
   obtain⟨ds,rfl,q⟩:=dl (v:=v) q
   exact SM.tup mb.slot mb.typ (fin _ rfl q)
  | dict=>
   refine lW (gR G (v:=v) q) λp c r e3r hp q=>?_
   subst e3r
   rw[hP] at hp
   exact SM.dictO hp mb.slot mb.typ (fin _ rfl q))
noncomputable def fS:RF:=λa s k=>tq a λv x=>dw v s λp ds=>eR ds (k .none (s.put (.list (ui ds (.cons x .nil))) p))
theorem MV.append:MV C G (.builtin "list.append") fS:=λW a s k hc h=>by
 refine oq (jQ h) λv x e2r h=>?_
 subst e2r
 obtain⟨p,ds,rfl,hp,h⟩:=cG G h
 refine eV (dt (G:=G) h) λh1 h=>?_
 refine SC.append hp (Z h1 (by simp)) (bX .none _ rfl ?_ h)
 rw[dr]
 show aK.set _ _ _=aK.set _ _ (O.list ((ui ds (.cons x .nil)).dens G))
 rw[nq]; rfl
noncomputable def lK:RF:=λa s k=>tq a λv x=>dw v s λp ds=>dw x s λJ es=>eR ds (eR es (k .none (s.put (.list (ui ds es)) p)))
theorem MV.extend:MV C G (.builtin "list.extend") lK:=λW a s k hc h=>by
 refine oq (jQ h) λv x e2r h=>?_
 rw[e2r]
 obtain⟨p,ds,rfl,hp,h⟩:=cG G h
 obtain⟨q,es,rfl,hq,h⟩:=cG G h
 refine eV (dt (G:=G) h) λh1 h=>?_
 refine eV (dt (G:=G) h) λh2 h=>?_
 refine SC.extend hp (IsL.ref hq) (Z (kY h1 h2) (by decide)) (bX .none _ rfl ?_ h)
 rw[dr]
 show aK.set _ _ _=aK.set _ _ (O.list ((ui ds es).dens G))
 rw[nq]
noncomputable def ED(r:TV):(TV->TV->Bool)->Bool:=
 TV.rec (motive:=λJ=>(TV->TV->Bool)->Bool) (λJ=>false) (λJ=>false) (λJ J=>false) (λJ J=>false) (λJ J=>false) (λJ J=>false) (λJ J J=>false) (λJ J=>false) (λJ J=>false) (λJ J=>false)
  (λJ=>false) (λx r J ih c=>bW (c x .nil) (λJ J=>ih λy q=>c y (.cons x q)) r) r
theorem EC{G:b6}{r:TV}:∀{c:TV->TV->Bool},ED r c=true->∃y q,r.dens G=q.dens G++[y.den G]/\c y q=true:=by
 induction r with
 | cons x r _ ih=>
  intro c h
  rcases bt (l:=r) (n:=c x .nil) (c:=λJ J=>ED r λy q=>c y (.cons x q)) h with ⟨rfl,h⟩ | ⟨a,b,e,h⟩
  ·exact rn x .nil rfl h
  ·refine oq (ih h) λy q h1 h2=>?_
   exact rn y (.cons x q) (congrArg (x.den G::·) h1) h2
 | nil=>exact @λJ h=>nt h
 | _=>exact @λJ h=>nt h
noncomputable def Kv:RF:=λa s k=>lu a λv=>dw v s λp ds=>eR ds (ED ds λy q=>k y (s.put (.list q) p))
theorem MV.pop:MV C G (.builtin "list.pop") Kv:=λW a s k hc h=>by
 refine aM (fN h) λv e1r h=>?_
 subst e1r
 obtain⟨p,ds,rfl,hp,h⟩:=cG G h
 refine eV (dt (G:=G) h) λh1 h=>?_
 refine oq (EC (G:=G) h) λy q e h=>?_
 rw[e] at hp h1
 rw[fy] at h1
 refine yH hp (Z (Z (bg _ _) h1) (by simp)) (bX y _ rfl ?_ h)
 rw[dr]; rfl
noncomputable def l4(i:Nat)(r:TV):(Nat->Bool)->Bool:=
 TV.rec (motive:=λJ=>(Nat->Bool)->Bool) (λJ=>false) (λJ=>false) (λJ J=>false) (λJ J=>false) (λJ J=>false) (λJ J=>false) (λJ J J=>false) (λJ J=>false) (λJ J=>false) (λJ J=>false)
  (λc=>c 0) (λx J J ih c=>asStr x λj=>Bool.rec (ih c) (ih λm=>c (bf m)) (bn j i)) r
where
 asStr (v:TV)(k:Nat->Bool):Bool:=na v (λJ=>false) (λJ=>false) k (λJ=>false) (λJ=>false)
theorem eT{v:TV}{k:Nat->Bool}(h:l4.asStr v k=true):∃j,v=.str j/\k j=true:=by
 cases v<;>first | exact⟨_,rfl,h⟩ | exact nt h
theorem Hs{G:b6}(o:cM G){i:Nat}{r:TV}:∀{c:Nat->Bool},l4 i r c=true->∃xs:List Str,r.dens G=xs.map V.str/\c (xs.countP λy=>y==G.str i)=true:=by
 induction r with
 | nil=>exact @λc h=>(a0 [] rfl h)
 | cons x r _ ih=>
  intro c h
  refine aM (eT (v:=x) h) λj e1r h=>?_
  rw[e1r]
  have h:Bool.rec (motive:=λJ=>Bool) (l4 i r c) (l4 i r λm=>c (bf m)) (bn j i)=true:=h
  cases q:bn j i with
  | true=>
   rw[q] at h
   obtain⟨xs,h1,h2⟩:=ih h
   refine a0 (G.str j::xs) (congrArg (V.str (G.str j)::·) h1) ?_
   rw[l8,bk q,beq_self_eq_true,if_pos rfl]; exact h2
  | false=>
   rw[q] at h
   refine aM (ih h) λxs h1 h2=>?_
   refine a0 (G.str j::xs) (congrArg (V.str (G.str j)::·) h1) ?_
   have:(G.str j==G.str i)=false:=by rw[sg o]; exact q
   rw[l8,this,if_neg bM]; exact h2
 | _=>exact @λJ h=>nt h
noncomputable def Er:RF:=λa s k=>tq a λv x=>dw v s λJ ds=>l4.asStr x λi=>l4 i ds λm=>k (.nat m) s
theorem MV.count(o:cM G):MV C G (.builtin "list.count") Er:=λW a s k hc h=>by
 refine oq (jQ h) λv x e2r h=>?_
 subst e2r
 obtain⟨p,ds,rfl,hp,h⟩:=cG G h
 refine aM (eT (v:=x) h) λi e1r h=>?_
 rw[e1r]
 refine aM (Hs o h) λxs e h=>?_
 rw[e] at hp
 exact tS (IsL.ref hp) (bX (.nat _) s rfl rfl h)
noncomputable def JB(i:Nat)(r:TV):(Nat->Bool)->Bool:=
 TV.rec (motive:=λJ=>(Nat->Bool)->Bool) (λJ=>false) (λJ=>false) (λJ J=>false) (λJ J=>false) (λJ J=>false) (λJ J=>false) (λJ J J=>false) (λJ J=>false) (λJ J=>false) (λJ J=>false)
  (λJ=>false) (λx r J ih c=>gn x λj=>Bool.rec (ih λm=>c (bf m)) (GF r λJ=>c 0) (bn j i)) r
theorem Hk{G:b6}{i:Nat}{r:TV}:∀{c:Nat->Bool},JB i r c=true->∃(xs:List Int)(j:Nat),r.dens G=xs.map V.int/\xs[j]?=some (i:Int)/\(∀m,m<j->xs[m]?≠some (i:Int))/\c j=true:=by
 induction r with
 | cons x r _ ih=>
  intro c h
  refine aM (dF (v:=x) h) λj e1r h=>?_
  rw[e1r]
  have h:Bool.rec (motive:=λJ=>Bool) (JB i r λm=>c (bf m)) (GF r λJ=>c 0) (bn j i)=true:=h
  cases q:bn j i with
  | true=>
   rw[q] at h
   refine aM (AV (G:=G) h) λms h1 h2=>?_
   refine Im ((j:Int)::ms.map λn:Nat=>(n:Int)) 0 (congrArg (V.int j::·) h1) (by rw[bk q]; rfl) (λm hm=>absurd hm (cF _)) h2
  | false=>
   rw[q] at h
   refine J4 (ih h) λxs m h1 h2 h3 h4=>?_
   refine Im ((j:Int)::xs) (m+1) (congrArg (V.int j::·) h1) h2 (λz hz=>?_) h4
   cases z with
   | zero=>
    intro e
    have:j=i:=nC (aw e)
    rw[this,iR] at q; cases q
   | succ z=>exact h3 z (em hz)
 | nil=>exact @λJ h=>nt h
 | _=>exact @λJ h=>nt h
noncomputable def y9:RF:=λa s k=>tq a λv x=>gQ v λds=>gn x λi=>JB i ds λm=>k (.nat m) s
theorem DJ:MV C G (.builtin "tuple.index") y9:=λW a s k hc h=>by
 refine oq (jQ h) λv x e2r h=>?_
 rw[e2r]
 refine aM (dl (v:=v) h) λds e1r h=>?_
 rw[e1r]
 refine aM (dF (v:=x) h) λi e1r h=>?_
 rw[e1r]
 refine J4 (Hk (G:=G) h) λxs j e h1 h2 h=>?_
 show SC C .none W (s.den G) _ [.tup (ds.dens G),.int i] _
 rw[e]
 exact wH h1 h2 (bX (.nat j) s rfl rfl h)
noncomputable def Ei(r:TV):(TV->Bool)->Bool:=
 TV.rec (motive:=λJ=>(TV->Bool)->Bool) (λJ=>false) (λJ=>false) (λJ J=>false) (λJ J=>false) (λJ J=>false) (λJ J=>false) (λJ J J=>false) (λJ J=>false) (λJ J=>false) (λJ J=>false)
  (λc=>c .nil) (λx J J ih c=>gQ x λp=>tq p λk v=>l4.asStr k λJ=>ih λl=>c (.cons (.cons k v) l)) r
theorem Cg{G:b6}{r:TV}:∀{c:TV->Bool},Ei r c=true->∃l,r.dens G=(l.sk G (mN G)).map El/\jK l=jK r/\c l=true:=by
 induction r with
 | nil=>exact @λc h=>(lz .nil rfl rfl h)
 | cons x r _ ih=>
  intro c h
  refine aM (dl (v:=x) h) λp e1r h=>?_
  rw[e1r]
  refine oq (jQ h) λk v e2r h=>?_
  rw[e2r]
  refine aM (eT (v:=k) h) λi e1r h=>?_
  subst e1r
  refine lL (ih h) λl h1 h2 h3=>?_
  exact lz (.cons (.cons (.str i) v) l) (congrArg (V.tup [.str (G.str i),v.den G]::·) h1) (congrArg bf h2) h3
 | _=>exact @λJ h=>nt h
noncomputable def vH(l:TV):TV->(TV->Bool)->Bool:=
 TV.rec (motive:=λJ=>TV->(TV->Bool)->Bool) (λJ J=>false) (λJ J=>false) (λJ J J=>false) (λJ J J=>false) (λJ J J=>false) (λJ J J=>false) (λJ J J J=>false) (λJ J J=>false) (λJ J J=>false) (λJ J J=>false)
  (λr c=>c r) (λp J J ih r c=>bW false (λk v=>Ce Iw k v r λr'=>ih r' c) p) l
theorem tZ{sk:List (Str×V)}{k:Str}{d:V}(h:(sk.map (·.1)).Nodup):((dU sk k d).map (·.1)).Nodup:=by
 unfold dU
 split
 ·rw[ef]
  have:((λx:Str×V=>x.1) ∘ λkv:Str×V=>if kv.1=k then(kv.1,d) else kv)=λx=>x.1:=by
   funext x
   show(if x.1=k then(x.1,d) else x).1=x.1
   split<;>rfl
  rw[this]; exact h
 ·rename_i q
  rw[dX,lA]
  refine⟨h,by simp,λx hx y hy e=>q ?_⟩
  refine aM (a8.mp hx) λz hz e2r=>?_
  subst e2r
  rw[eu]
  exact a0 z hz (decide_eq_true (by simpa [e] using hy))
theorem y5{G:b6}(o:cM G){l:TV}:∀{r:TV}{c:TV->Bool},((r.sk G (mN G)).map (·.1)).Nodup->vH l r c=true->∃r',r'.sk G (mN G)=vI (r.sk G (mN G)) (l.sk G (mN G))/\c r'=true:=by
 induction l with
 | nil=>exact @λr c J h=>(a0 r rfl h)
 | cons p l _ ih=>
  intro r c hn h
  rcases bt (l:=p) (n:=false) (c:=λk v=>Ce Iw k v r λr'=>vH l r' c) h with ⟨_,h⟩ | ⟨k,v,rfl,h⟩
  ·exact nt h
  ·refine aM (o6 (v6 o) hn h) λr' h1 h2=>?_
   refine aM (ih (by rw[h1]; exact tZ hn) h2) λr'' h3 h4=>?_
   exact a0 r'' (by rw[h3,h1]; rfl) h4
 | _=>exact @λJ J J h=>nt h
noncomputable def A2:RF:=λa s k=>lu a λv=>na v (λJ=>false) (λJ=>false) (λJ=>false)
 (λds=>Ei ds λl=>cW (bm (jK l) 900) (vH l .nil λr=>s.push (.dict 0 r) λp s=>k (.ref p) s))
 (λJ=>iA v s λJ c r=>Cz r (oR r c 0 (s.push (.dict 0 r) λp s=>k (.ref p) s)))
theorem MV.dict(o:cM G)(hP:G.P=C.w.params):MV C G (.type "dict") A2:=λW a s k hc h=>by
 refine aM (fN h) λv e1r hh=>?_
 subst e1r
 clear h
 cases v with
 | tup ds=>
  refine lL (Cg (G:=G) hh) λl e1 e2 h=>?_
  refine eV (bO h) λhf1 h=>?_
  refine aM (y5 o (r:=.nil) JZ h) λr g1 h=>?_
  refine bD (cy G h) λq s' f1 f2 h=>?_
  show SC C .none W (s.den G) _ [.tup (ds.dens G)] _
  rw[e1]
  refine SC.dictPairs hc (ah (sn l) (ah (N hf1) (by simp))) (bX (.ref q) s' (by rw[<-f1]; rfl) ?_ h)
  rw[f2,<-hP]
  show _=aK.push _ (dO G.P (i3 V.str (r.sk G (mN G))))
  rw[g1]; rfl
 | ref p=>
  have hh:iA (.ref p) s (λJ c r=>Cz r (oR r c 0 (s.push (.dict 0 r) λp s=>k (.ref p) s)))=true:=hh
  refine lW (gR G hh) λp' c r e0 hp h=>?_
  cases e0
  obtain⟨hf,h⟩:=rI (G:=G) h
  refine eV (iK (G:=G) h) λe h=>?_
  refine bD (cy G h) λq s' f1 f2 h=>?_
  rw[hP,e] at hp
  exact vd (encStr _ _) hp hf (bX (.ref q) s' (by rw[<-f1]; rfl) (by rw[f2,<-hP]; rfl) h)
 | _=>exact nt hh
end
section
variable{C:Cx}{G:b6}{sc:Scope}{n:Nat}{ns:List (Str×Bool)}
theorem Cl(o:cM G)(hP:G.P=C.w.params){W:En}{key:TV}{s:St}{k:TV->Bool}{Q:V->aK->Prop}{p c:Nat}{r:TV}(hp:(s.den G).get p=some (dO G.P (t0 G c r)))(h:xw c r key (λJ eq=>mM eq key k false r)=true)(hq:∀w,k w=true->Q (w.den G) (s.den G)):SI C .none W (s.den G) (.ref p) (key.den G) Q:=by
 rw[hP] at hp
 rcases vV (G:=G) h with ⟨e1,e2,h⟩ | ⟨e1,e2,h⟩ | ⟨e1,e2,h⟩
 ·rw[e1] at hp; rw[e2]
  rcases iW (v6 o) h with ⟨_,h⟩ | ⟨w,e,h⟩
  ·exact nt h
  ·exact SI.dictK (encStr _ _) hp e (hq w h)
 ·rw[e1] at hp; rw[e2]
  rcases iW (G:=G) v7 h with ⟨_,h⟩ | ⟨w,e,h⟩
  ·exact nt h
  ·exact SI.dictK (encInt _ _) hp e (hq w h)
 ·rw[e1] at hp; rw[e2]
  rcases iW (qd o) h with ⟨_,h⟩ | ⟨w,e,h⟩
  ·exact nt h
  ·exact SI.dictT (lH o r) (ni o key) hp e (hq w h)
noncomputable def Ks(x y:TV)(s:St)(k:TV->Bool):Bool:=na x (λJ=>false) (λJ=>false) (λJ=>false) (λds=>Lg ds y k)
 (λp=>s.at p λo=>TO.rec (motive:=λJ=>Bool) (λds=>Lg ds y k) (λc r=>xw c r y λJ eq=>mM eq y k false r) (λJ J=>false) (λJ=>false) (λJ=>false) o)
theorem GG(o:cM G)(hP:G.P=C.w.params){W:En}{x y:TV}{s:St}{k:TV->Bool}{Q:V->aK->Prop}(h:Ks x y s k=true)(hq:∀v,k v=true->Q (v.den G) (s.den G)):SI C .none W (s.den G) (x.den G) (y.den G) Q:=by
 cases x with
 | tup ds=>
  obtain⟨j,v,rfl,hj,hv,h⟩:=FP G h
  exact Gp hv hj (hq v h)
 | ref p=>
  refine aM (d8 G (k:=λo=>TO.rec (motive:=λJ=>Bool) (λds=>Lg ds y k) (λc r=>xw c r y λJ eq=>mM eq y k false r) (λJ J=>false) (λJ=>false) (λJ=>false) o) h) λob ho h=>?_
  cases ob with
  | list ds=>
   obtain⟨j,v,rfl,hj,hv,h⟩:=FP G h
   exact SI.list (IsL.ref ho) (cY j) (zb hj rfl) (by exact hv) (hq v h)
  | dict c r=>exact Cl o hP ho h hq
  | _=>exact nt h
 | _=>exact nt h
noncomputable def bT(a b:RE):RE:=λenv s k=>a env s λx s=>b env s λy s=>Ks x y s λv=>k v s
theorem bj{e f:Expr}{a b:RE} {pos}(o:cM G)(hP:G.P=C.w.params)(ha:ME C G sc n ns e a)(hb:ME C G sc n ns f b):ME C G sc n ns (.Subscript e f pos) (bT a b):=λW l env s k h1 h2 h3 h4 hr=>
 SE.sub (ha.go h1 h2 h3 h4 hr λx s' q=>by
  exact hb.go h1 h2 h3 h4 q λy s'' q=>by
   exact GG o hP q λv hv=>(bX v s'' rfl rfl hv))
theorem GN(G:b6){v:TV}:∀{k:Nat}{l:TV},k<jK l->(w5 k v l).dens G=(l.dens G).set k (v.den G):=by
 intro k
 induction k with
 | zero=>
  intro l h
  cases l with
  | cons _ _=>rfl
  | _=>exact zn h
 | succ k ih=>
  intro l h
  cases l with
  | cons a r=>exact congrArg (a.den G::·) (ih (l:=r) (em h))
  | _=>exact absurd h (cF _)
noncomputable def Ir(x y:TV)(j:Nat)(v:TV)(s:St)(k:St->Bool):Bool:=na x (λJ=>false) (λJ=>false) (λJ=>false) (λJ=>false) λp=>s.at p λo=>TO.rec (motive:=λJ=>Bool) (λds=>eR ds (cW (bm (bf j) (jK ds)) (k (s.put (.list (w5 j v ds)) p)))) (λJ J=>xe x y v s k) (λJ J=>false) (λJ=>false) (λJ=>false) o
noncomputable def rp(a b:RE):RG:=λenv s v kn=>a env s λx s=>b env s λy s=>na y
 (λj=>Ir x y j v s λs=>kn env s)
 (λJ=>xe x y v s λs=>kn env s) (λJ=>xe x y v s λs=>kn env s) (λJ=>xe x y v s λs=>kn env s) (λJ=>false)
theorem EW(o:cM G)(hP:G.P=C.w.params){W:En}{x v:TV}{j:Nat}{s:St}{k:St->Bool}{Q:aK->Prop}(h:Ir x (.nat j) j v s k=true)(hq:∀s',k s'=true->Q (s'.den G)):SU C .none W (s.den G) (x.den G) (.int j) (v.den G) Q:=by
 rcases vx h with ⟨_,_,h⟩ | ⟨_,_,h⟩ | ⟨_,_,h⟩ | ⟨_,_,h⟩ | ⟨p,e,h⟩
 iterate 4 exact nt h
 refine aM (d8 G h) λob ho q=>?_
 cases ob with
 | list ds=>
  obtain⟨q1,q⟩:=dt (G:=G) q
  refine eV (bO q) λq2 q=>?_
  have hlt:=N q2
  rw[e]
  refine SU.list ho (by rw[pg]; exact hlt) (Z q1 (by simp)) ?_
  have hs:=hq _ q
  rw[dr] at hs
  rw[<-GN G hlt]
  exact hs
 | dict c r=>exact xd (key:=.nat j) o hP q hq
 | _=>exact nt q
theorem MG.sub{e f:Expr}{a b:RE} {pos}(o:cM G)(hP:G.P=C.w.params)(ha:ME C G sc n ns e a)(hb:ME C G sc n ns f b):MG C G sc n ns (.Subscript e f pos) (rp a b):=λW l env s v kn h1 h2 h3 h4 hr=>
 SG.sub (ha.go h1 h2 h3 h4 hr λx s' q=>hb.go h1 h2 h3 h4 q λy s'' q=>by
  rcases vx q with ⟨j,e,q⟩ | ⟨_,_,q⟩ | ⟨_,_,q⟩ | ⟨_,_,q⟩ | ⟨_,_,q⟩
  ·subst e; exact EW o hP q λs' hs=>⟨env,s',h4,rfl,hs⟩
  iterate 3 exact xd o hP q λs' hs=>(bX env s' h4 rfl hs)
  exact nt q)
theorem qJ{x:TV}{s:St}{g:TV->TV}{k:KT}(h:(dw x s λJ ds=>eR ds (s.push (.list (g ds)) λp s=>k (.ref p) s))=true):∃ds,IsL (s.den G) (x.den G) (ds.dens G)/\(ds.dens G).length<=100000/\Tells G k (.ref (s.den G).nx) ((s.den G).push (.list ((g ds).dens G))):=by
 refine bD (cG G h) λp ds e hp q=>?_
 obtain⟨q1,q⟩:=dt (G:=G) q
 refine bD (cy G q) λz s3 g1 g2 q=>?_
 exact⟨ds,by rw[e]; exact IsL.ref hp,q1,.ref z,s3,by rw[<-g1]; rfl,g2.symm,q⟩
noncomputable def io(a b:RE):RE:=λenv s k=>a env s λx s=>b env s λy s=>gn y λj=>na x (λJ=>false) (λJ=>false) (λJ=>false)
 (λds=>eR ds (cW (bm 1 j) (cW (bm j (jK ds)) (k (.tup (Bi j ds)) s))))
 (λJ=>dw x s λJ ds=>eR ds (s.push (.list (Bi j ds)) λp s=>k (.ref p) s))
theorem gW{e f:Expr}{a b:RE} {sp pos}(ha:ME C G sc n ns e a)(hb:ME C G sc n ns f b):ME C G sc n ns (.Subscript e (.Slice (some f) ax ax sp) pos) (io a b):=λW l env s k h1 h2 h3 h4 hr=>
 SE.slice (ha.go h1 h2 h3 h4 hr λx s' q=>by
  refine hb.go h1 h2 h3 h4 q λy s'' q=>?_
  refine aM (dF (v:=y) q) λj e1r q=>?_
  rw[e1r]
  refine a0 j rfl ?_
  rcases vx q with ⟨_,_,q⟩ | ⟨_,_,q⟩ | ⟨_,_,q⟩ | ⟨ds,e,q⟩ | ⟨_,_,q⟩
  iterate 3 exact nt q
  ·obtain⟨q1,q⟩:=dt (G:=G) q
   obtain⟨q2,q⟩:=bO q
   obtain⟨q3,q⟩:=bO q
   rw[e]
   exact wF (N q2) (by rw[pg]; exact N q3) (Z q1 (by decide)) (bX (.tup (Bi j ds)) s'' (by rw[<-s6]; rfl) rfl q)
  ·obtain⟨ds,hl,q1,q⟩:=qJ q
   rw[s6] at q
   exact u8 hl (Z q1 (by decide)) q)
structure F2(G:b6)(t:List (Nat×Nat)):Prop where
 slice:∀i j,(i,j)∈t->Txt.slice (G.str i) none (some 1)=G.str j/\(G.str i).length<=1000000
noncomputable def Bc(t:List (Nat×Nat))(i:Nat)(c:Nat->Bool):Bool:=List.rec (motive:=λJ=>Bool) false (λp J ih=>Bool.rec ih (c p.2) (bn p.1 i)) t
theorem xB{t:List (Nat×Nat)}:∀{i:Nat}{c:Nat->Bool},Bc t i c=true->∃j,(i,j)∈t/\c j=true:=by
 induction t with
 | nil=>exact @λJ J h=>nt h
 | cons hd0 t ih=>
  obtain⟨a,b⟩:=hd0
  intro i c h
  have h:Bool.rec (motive:=λJ=>Bool) (Bc t i c) (c b) (bn a i)=true:=h
  cases q:bn a i with
  | true=>rw[q] at h; rw[<-bk q]; exact a0 b (.head _) h
  | false=>
   rw[q] at h
   refine aM (ih h) λj h1 h2=>?_
   exact a0 j (.tail _ h1) h2
noncomputable def xb(t:List (Nat×Nat))(a b:RE):RE:=λenv s k=>a env s λx s=>b env s λy s=>gn y λj=>na x (λJ=>false) (λJ=>false)
 (λi=>cW (bn j 1) (Bc t i λm=>k (.str m) s)) (λJ=>false)
 (λJ=>dw x s λJ ds=>eR ds (s.push (.list (Ic j ds)) λp s=>k (.ref p) s))
theorem rz{t:List (Nat×Nat)}{e f:Expr}{a b:RE} {sp pos}(ht:F2 G t)(ha:ME C G sc n ns e a)(hb:ME C G sc n ns f b):ME C G sc n ns (.Subscript e (.Slice ax (some f) ax sp) pos) (xb t a b):=λW l env s k h1 h2 h3 h4 hr=>
 SE.slice (ha.go h1 h2 h3 h4 hr λx s' q=>by
  refine hb.go h1 h2 h3 h4 q λy s'' q=>?_
  refine aM (dF (v:=y) q) λj e1r q=>?_
  rw[e1r]
  refine a0 j rfl ?_
  rcases vx q with ⟨_,_,q⟩ | ⟨_,_,q⟩ | ⟨i,e,q⟩ | ⟨_,_,q⟩ | ⟨_,_,q⟩
  ·exact nt q
  ·exact nt q
  ·obtain⟨q1,q2⟩:=bO q
   refine aM (xB q2) λm hm q3=>?_
   obtain rfl:=bk q1
   obtain⟨g1,g2⟩:=ht.slice i m hm
   rw[e]
   exact wG g2 (bX (.str m) s'' (congrArg V.str g1) rfl q3)
  ·exact nt q
  ·obtain⟨ds,hl,q1,q⟩:=qJ q
   rw[wW] at q
   exact oC hl (Z q1 (by simp)) q)
end
section
variable{C:Cx}{G:b6}{sc:Scope}{n:Nat}{ns:List (Str×Bool)}
noncomputable def DY(c1 c2:TV->TV->St->(Bool->Bool)->Bool)(a b c:RE):RT:=λenv s k=>a env s λx s=>b env s λy s=>c1 x y s λt=>Bool.rec (k false s) (c env s λz s=>c2 y z s λt=>k t s) t
theorem DK{op op':CmpOp}{c1 c2:TV->TV->St->(Bool->Bool)->Bool}{a b c:Expr}{ra rb rc:RE} {pos}(h1:MC C G op c1)(h2:MC C G op' c2)(hm:lastMarks [op,op'] [b,c]=false)(ha:ME C G sc n ns a ra)(hb:ME C G sc n ns b rb)(hc:ME C G sc n ns c rc) :
  MT C G sc n ns (.Compare a [op,op'] [b,c] pos) (DY c1 c2 ra rb rc):=λW l env s k w1 w2 w3 w4 hr=>
 BO hm (ha.go w1 w2 w3 w4 hr λx s' q=>by
  exact hb.go w1 w2 w3 w4 q λy s'' q=>by
   refine h1 W x y s'' _ _ w2 q λt ht=>(a0 t rfl ?_)
   cases t with
   | false=>exact a0 s'' rfl ht
   | true=>
    exact hc.go w1 w2 w3 w4 ht λz s3 q=>h2 W y z s3 _ _ w2 q λt ht=>⟨t,rfl,s3,rfl,ht⟩)
noncomputable def anyR(x:TV)(r:TV):Bool:=TV.rec (motive:=λJ=>Bool) false false (λJ=>false) (λJ=>false) (λJ=>false) (λJ=>false) (λJ J=>false) (λJ=>false) (λJ=>false) (λJ=>false) false (λy J J ih=>Bool.rec ih true (rr y x)) r
theorem Bo{G:b6}(o:cM G){x:TV}{d:Nat}(hx:cL x false d=true){r:TV}:∀{d':Nat},cL r true d'=true->((tH (r.dens G)).any λy=>dT y (pd (x.den G)))=anyR x r:=by
 induction r with
 | nil=>exact @λJ J=>rfl
 | cons a b _ ih=>
  intro d' h
  have h:Bool.rec (motive:=λJ=>Bool) false (cL b true d') (cL a false d')=true:=h
  cases e:cL a false d' with
  | false=>rw[e] at h; exact nt h
  | true=>
   rw[e] at h
   show(dT (pd (a.den G)) (pd (x.den G))||(tH (b.dens G)).any _)=Bool.rec (anyR x b) true (rr a x)
   simp only[(wg o a x d' d).1 e hx,ih h]
   cases rr a x<;>rfl
 | _=>exact @λJ h=>nt h
noncomputable def oe:TV->TV->St->(Bool->Bool)->Bool:=λx y s k=>na y (λJ=>false) (λJ=>false) (λJ=>false) (λds=>cW (cL x false 6) (cW (cL ds true 6) (k (anyR x ds))))
 (λp=>s.at p λo=>TO.rec (motive:=λJ=>Bool) (λds=>cW (cL x false 6) (cW (cL ds true 6) (k (anyR x ds)))) (λJ J=>cIn x y s k) (λJ J=>false) (λJ=>false) (λJ=>false) o)
theorem I3{p:PyData}{d:Nat}(a:p.canLay0=true)(b:p.depth<=d)(c:d<=64):shaped p=true:=by
 unfold shaped; rw[a,decide_eq_true (Z b c)]; rfl
theorem AQ(o:cM G)(hP:G.P=C.w.params):MC C G .In oe:=λW x y s k Q hc h hq=>by
 have vals:∀{ds:TV},cW (cL x false 6) (cW (cL ds true 6) (k (anyR x ds)))=true->fO (s.den G) (x.den G) (pd (x.den G))/\hU (ds.dens G)=true/\c8 (tH (ds.dens G))=true/\shaped (pd (x.den G))=true/\k ((tH (ds.dens G)).any λy=>dT y (pd (x.den G)))=true:=λ{ds} h=>by
  refine eV (bO h) λh1 h=>?_
  refine eV (bO h) λh2 h=>?_
  refine sE ((iY o x 6).1 h1) λa1 a2 a3=>?_
  refine sE ((iY o ds 6).2 h2) λb1 b2 b3=>?_
  exact⟨.inl ⟨a1,rfl⟩,b1,b2,I3 a2 a3 (by simp),by rw[Bo o h1 h2]; exact h⟩
 cases y with
 | tup ds=>
  refine o05 (vals (ds:=ds) h) λh1 h2 h3 h4 h5=>?_
  exact Dz h1 h2 h3 h4 (hq _ h5)
 | ref p=>
  refine aM (d8 G (k:=λo=>TO.rec (motive:=λJ=>Bool) (λds=>cW (cL x false 6) (cW (cL ds true 6) (k (anyR x ds)))) (λJ J=>cIn x (.ref p) s k) (λJ J=>false) (λJ=>false) (λJ=>false) o) h) λob ho h=>?_
  cases ob with
  | list ds=>
   refine o05 (vals (ds:=ds) h) λh1 h2 h3 h4 h5=>?_
   exact BL h1 (IsL.ref ho) h2 h3 h4 (hq _ h5)
  | dict c r=>exact B0 o hP W x (.ref p) s k Q hc h hq
  | _=>exact nt h
 | _=>exact nt h
noncomputable def At:TV->TV->St->(Bool->Bool)->Bool:=λx y s k=>qN y s λds=>cW (cL x false 6) (cW (cL ds true 6) (k (!(anyR x ds))))
theorem wL(o:cM G):MC C G .NotIn At:=λW x y s k Q hc h hq=>by
 refine aM (mY G h) λds hy h=>?_
 obtain⟨h1,h⟩:=bO h
 obtain⟨h2,h⟩:=bO h
 refine sE ((iY o x 6).1 h1) λa1 a2 a3=>?_
 refine sE ((iY o ds 6).2 h2) λb1 b2 b3=>?_
 rw[<-Bo o h1 h2] at h
 have q:=hq _ h
 rcases hy with rfl | ⟨p,rfl,hp⟩
 ·exact wC (.inl ⟨a1,rfl⟩) b1 b2 (I3 a2 a3 (by decide)) q
 ·exact u7 (.inl ⟨a1,rfl⟩) (IsL.ref hp) b1 b2 (I3 a2 a3 (by decide)) q
noncomputable def xk(i:Nat)(js:List Nat):Bool:=List.rec (motive:=λJ=>Bool) false (λj J ih=>Bool.rec ih true (bn j i)) js
theorem A3{G:b6}(o:cM G){i:Nat}:∀js:List Nat,((js.map G.str).any λy=>y==G.str i)=xk i js
 | []=>rfl
 | j::js=>by
  show((G.str j==G.str i)||(js.map G.str).any _)=Bool.rec (xk i js) true (bn j i)
  simp only[sg o,A3 o js]
  cases bn j i<;>rfl
noncomputable def nU:RE:=λJ s k=>s.push (.dict 0 .nil) λp s=>k (.ref p) s
theorem ME.dictE{pos}(hP:G.P=C.w.params):ME C G sc n ns (.Dict [] [] pos) nU:=λW l env s k h1 h2 h3 h4 hr=>by
 refine bD (cy G hr) λp s' e1 e2 q=>?_
 exact SE.dictE (bX (.ref p) s' (by rw[<-e1]; rfl) (by rw[e2,<-hP]; rfl) q)
noncomputable def Ec(a b:RE):RE:=λenv s k=>a env s λx s=>l4.asStr x λJ=>b env s λy s=>s.push (.dict 0 (.cons (.cons x y) .nil)) λp s=>k (.ref p) s
theorem DL{e f:Expr}{a b:RE} {pos}(hP:G.P=C.w.params)(ha:ME C G sc n ns e a)(hb:ME C G sc n ns f b):ME C G sc n ns (.Dict [some e] [f] pos) (Ec a b):=λW l env s k h1 h2 h3 h4 hr=>
 SE.dictO rfl rfl (by simp) (by simp) (ha.go h1 h2 h3 h4 hr λx s' q=>by
  refine aM (eT (v:=x) q) λi e1r q=>?_
  subst e1r
  refine a0 (G.str i) rfl (hb.go h1 h2 h3 h4 q λy s'' q=>?_)
  refine bD (cy G q) λp s3 g1 g2 q=>?_
  exact⟨by simp,.ref p,s3,by rw[<-g1]; rfl,by rw[g2,<-hP]; rfl,q⟩)
def C7(C:Cx)(G:b6)(f:Addr)(n:Nat)(r:RF):Prop:=
 ∀(W:En)(args:TV)(s:St)(k:KT),W.calm=true->n<=W.d->r args s k=true->wu C .none W (s.den G) (.val (.ref f)) (args.dens G) (Tells G k)
structure mZ(C:Cx)(c f:Addr):Prop where
 made:makesIn C.K c=true
 init:findIn C.K (.ref c) "__init__"=some (some (.ref f))
 typ:typeIn C.K (.ref f)=some (.type "function")
 keep:keepIn C.K (.ref c)=true
noncomputable def Hh(v:TV)(b:Bool):Bool:=TV.rec (motive:=λJ=>Bool) false b (λJ=>false) (λJ=>false) (λJ=>false) (λJ=>false) (λJ J=>false) (λJ=>false) (λJ=>false) (λJ=>false) false (λJ J J J=>false) v
noncomputable def vG(c:Nat)(f:RF)(a:RE):RE:=λenv s k=>a env s λrow s=>s.push (.inst c .nil) λp s=>f (.cons (.ref p) row) s λv s=>Hh v (k (.ref p) s)
theorem wu.mono{X:bc}{W:En}{σ:aK}{f:V}{ds:List V}{Q Q':V->aK->Prop}(h:wu C X W σ f ds Q)(k:∀d σ',Q d σ'->Q' d σ'):wu C X W σ f ds Q':=λg A L s fv vs R hA hf hv=>
 codeAny_mono (h g A L s fv vs R hA hf hv) λr s' x=>by
  cases r with
  | error e=>exact x
  | ok fl=>cases fl with
   | ret v=>obtain⟨d,g',σ',e,R',hv',q⟩:=x; exact⟨d,g',σ',e,R',hv',k _ _ q⟩
   | _=>exact x
theorem ME.cls{x:Str} {np pos}{args:List Expr}{c f:Addr}{m:Nat}{r:RF}{a:RE}(hf:C7 C G f m r)(hm:m+1<=n)(mo:mZ C c f)(hk:sc.names.lookup x=some .globalImplicit)(e:nsIn C.K mainGlobals x=some (some (.ref c)))(hd:(x==("__debug__":Str))=false)
  (hs:dP args=true)(ha:ML C G sc n ns args a):ME C G sc n ns (.Call (.Name x np) args [] pos) (vG c r a):=λW l env s k h1 h2 h3 h4 hr=>
 c9 hs (oE ((h1)▸hk) e ⟨vh mo.keep,ha.go h1 h2 h3 h4 hr λv s' J q=>by
  refine bD (cy G q) λp s'' g1 g2 q=>?_
  have q':=hf W.dec (.cons (.ref p) v) s'' _ h2 (aW (Z hm h3)) q
  refine SC.cls (af (cH m) (Z hm h3)) mo.made mo.init mo.typ ?_
  rw[<-g1]
  have e3:(s'.den G).push (.inst c [])=s''.den G:=by
   rw[g2]
   show aK.push _ _=aK.push _ (O.inst c ((G.flds c).zip []))
   rw[qp]
  rw[e3]
  refine wu.mono q' λd σ' hq=>bD hq λw s3 i1 i2 q=>?_
  cases w with
  | none=>exact⟨i1,.ref p,s3,rfl,i2,q⟩
  | _=>exact nt q⟩ hd)
end
section
variable{C:Cx}{G:b6}{sc:Scope}{n:Nat}{ns:List (Str×Bool)}
noncomputable def ES(a:RE):RI:=λenv s k=>a env s λv s=>gQ v λds=>k (.cons (.nat 0) (.tup ds)) s
theorem MI.enum{ts:List Expr}{kd:Nat} {tp np pos}{e:Expr}{a:RE}(b:fX C sc "enumerate" (.type "enumerate"))(hs:dW e=true)(ha:ME C G sc n ns e a):MI C G sc n ns (.Tuple ts kd tp) (.Call (.Name "enumerate" np) [e] [] pos) (ES a):=λW l env s k h1 h2 h3 h4 hr=>
 u9 h2 hs (j6 (h1▸b) ⟨rfl,ha.go h1 h2 h3 h4 hr λv s' q=>by
  refine aM (dl (v:=v) q) λds e1r q=>?_
  subst e1r
  exact⟨_,rfl,_,s',rfl,.enum _ ds 0 rfl,q⟩⟩)
noncomputable def EQ(a b:RE):RI:=λenv s k=>a env s λv s=>gQ v λds=>b env s λu s=>gQ u λes=>k (.cons (.tup ds) (.tup es)) s
theorem MI.zip{ts:List Expr}{kd:Nat} {tp np pos}{e f:Expr}{a b:RE}(bl:fX C sc "zip" (.type "zip"))(hs:dW e=true)(hs':dW f=true)(ha:ME C G sc n ns e a)(hb:ME C G sc n ns f b):MI C G sc n ns (.Tuple ts kd tp) (.Call (.Name "zip" np) [e,f] [] pos) (EQ a b):=λW l env s k h1 h2 h3 h4 hr=>
 jp.zip h2 hs hs' (j6 (h1▸bl) ⟨rfl,ha.go h1 h2 h3 h4 hr λv s' q=>by
  refine aM (dl (v:=v) q) λds e1r q=>?_
  subst e1r
  refine a0 _ rfl (hb.go h1 h2 h3 h4 q λu s'' q=>?_)
  refine aM (dl (v:=u) q) λes e1r q=>?_
  subst e1r
  exact⟨_,rfl,_,s'',rfl,.zip _ _ ds es 0 rfl rfl,q⟩⟩)
theorem C7.fn{a:Addr}{oc:Value}{od:Option Addr}{osl:Array (Option Value)}{name qual:Str}{params:Arguments}{body:List Stmt}{scope:Scope}{dV kV doc pm cdv ct:Value}{an:Option Addr}{n m u:Nat}{cs:List (Str×Option Nat)}{ls:List (Str×Nat)}{rest:List (Str×Bool)}{rb:RS}
  (ho:C.K.lookup a=some ⟨oc,od,.func (fnOf name qual params body scope dV kV doc pm an cdv ct),osl⟩)(hcd:codeIn C.K cdv qual=true)(ff:kF scope (bh params))(hm:(bh params).length=m)(hu:rest.length=u)
  (hb:∀vs:List Value,vs.length=m->bindArgs (fnOf name qual params body scope dV kV doc pm an cdv ct) ⟨vs,[]⟩=pure ((bh params).zip vs))
  (hp:yf scope (bh params) cs ls rest)
  (h:MS C G scope n (cs.reverse.map (λc=>(c.1,true))++(ls.map (λx=>(x.1,false))++rest)) body rb):C7 C G a (n+1) (cT m (cs.map (·.2)) (ls.map (·.2)) u rb):=λW args s k h1 h2 hr=>by
 subst hu
 obtain⟨hl,hr⟩:=rE G hr
 refine wu.fn (Xi:=.none) (d':=W.d - 1) ho hcd (Jc h2) ff (λvs hv=>hb vs (hv.trans hl)) jo.none λJ=>?_
 obtain⟨lrow,he,hr⟩:=xq (G:=G) (W:=An scope (s.den G) (W.d - 1) W.calm (some (cdv,qual++".<locals>."))) (l:=uI scope (bh params) (args.dens G)) (rest:=rest) (pS λx b hx=>by
   refine eV (hp.rest x b hx) λq q2=>?_
   exact⟨q,jl q2⟩) (λx i hx v hv=>by
   refine eV (hp.locs x i hx) λq q2=>?_
   exact th q q2 hv) hr
 obtain⟨env,s',he,hs',hr⟩:=uD (G:=G) (b:=jP (λx=>scope.names.lookup x) ((bh params).zip (args.dens G)) λJ=>none) (args:=args) (n:=(s.den G).nx) (al:=[]) (λx o hx=>by
   refine eV (hp.cells x o hx) λq q2=>?_
   cases o with
   | none=>exact jn q2
   | some i=>exact λv hv=>ti q q2 hv) hp.nodup rfl (by rw[<-hp.names,<-cellsFrom_names]; rfl) he hr
 unfold uy
 rw[qE,hp.names,<-hs']
 refine SS.mono (h _ _ env s' _ k rfl h1 (aW h2) he hr) λf l' σ' q=>?_
 cases f with
 | next=>refine bD q λenv' s' J e q=>?_; exact bX .none s' rfl e q
 | ret d=>exact q
 | brk=>exact q.elim
 | cont=>exact q.elim
end
noncomputable def lP(x:Str):List V:=x.cps.toList.map λc=>V.str ⟨#[c]⟩
section
variable{C:Cx}{X:bc}{W:En}{l:Loc}{σ:aK}{QI:tB->aK->Prop}{Q:V->aK->Prop}
theorem Hf{gb:ac}{A:Around}{t:Expr}{I:Addr}{x:Str}{tk:Tok}(hh:A.handled=.none)(h0:C.H0.get? I=none):uj C gb A t I [I] (FD (lP x)) (λj h=>h.IsStrIter I "str_ascii_iterator" x tk j) where
 frame:=λj=>⟨λh h' ⟨o,e,r⟩ k=>(a0 o (k I (.head _) o e) r),λh ⟨o,e,J1⟩ b hb=>by
  cases hb with
  | head=>exact⟨o,e⟩
  | tail _ hb=>cases hb⟩
 done:=λj=>by
  intro g σ s Q E hb R hown hj hst hQ
  have hj:(lP x)[j]?=none:=hj
  have hle:x.cps[j]?=none:=by
   unfold lP at hj
   simpa using hj
  refine wpAny_pyNext_ascii_end hh hst hle λh' he=>hQ _ (R.keepsT (λb o hb e=>he b o (λq=>by
   subst q; rcases hb with hb | hb
   ·exact hb (hown _ (.head _))
   ·exact hb h0) e) rfl rfl)
 next:=λj d'=>by
  intro g σ s Q E hb R hown hj hst hQ
  have hj:(lP x)[j]?=some d':=hj
  unfold lP at hj
  rw[bB] at hj
  refine aM (aY.mp hj) λc hc e2r=>?_
  subst e2r
  refine wpAny_pyNext_ascii_item hst (c:=c) (by simpa using hc) λh' hit hs=>hQ _ _ λQ' E' hq=>?_
  refine lL (id hit) λo e hcl J=>?_
  exact iN e hcl rfl (hq g _ (dA.refl g) hown (R.keepsT (λb o hb e=>(hs.2 b (λq=>by
   cases q; rcases hb with hb | hb
   ·exact hb (hown _ (.head _))
   ·exact hb h0)).trans e) rfl rfl) ⟨_,rfl⟩ hit)
theorem jp.str{t e:Expr}(hc:W.calm=true)(h:SE C X W e l σ λd aA=>∃x,d=.str x/\x.cps.all (·<128)=true/\QI (FD (lP x)) aA):jp C X W t e l σ QI:=λg A cenv L m s p=>by
 refine wpAny_mono (h g A cenv L m s p) ?_ λJ J h=>h
 rintro v aQ ⟨d,cj,aA,bH,b7,hd,x,rfl,ha,q⟩
 obtain⟨tk,rfl⟩:=hd
 have cf:=p.step bH b7
 have hfree:=b7.free_size (ad aQ.heap.objs.size)
 have hfree0:g aQ.heap.objs.size=.free:=by
  by_cases q:g aQ.heap.objs.size=.free
  ·exact q
  ·have:=bH _ q; rw[hfree] at this; exact absurd this.symm q
 refine wpAny_pyIter_ascii ha ⟨aQ.heap.objs.size,[aQ.heap.objs.size],_,_,cj,aA,rfl,bH,b7.push _,Hf (x:=x) (tk:=tk) (cf.A.calm hc) (b7.h0_size (ad _)),λJ J J st h=>wpAny_pyIter_striter_ascii st h,(lz _ (ak _ rfl) rfl rfl),λb hb=>?_,q⟩
 cases hb with
 | head=>exact⟨hfree0,hfree,b7.h0_size (ad _)⟩
 | tail _ hb=>cases hb
theorem SI.str{x:Str}{c:Nat}(hx:x.cps[0]?=some c)(h:Q (.str ⟨#[c]⟩) σ):SI C X W σ (.str x) (.int 0) Q:=by
 rintro g A L s ov iv R hA ⟨t,rfl⟩ ⟨u,rfl⟩
 have hpos:0<x.length:=by
  have:=(uT.mp hx).1
  exact this
 refine bX ("str") _ slot_str_getitem.lookup (typeIs_str _ _ _) (PyProof.Rows.getItem_str (c:=c) (by decide) ?_ (Up.here (d:=.str _) (R.toks _) ⟨_,rfl⟩ h))
 dsimp only[seqIndex?]
 simp[hpos,hx]
theorem DA{x y:Str}(h:Q (.bool (Txt.contains x y)) σ):SV C X W σ [.str y,.str x] (jA .In) Q:=by
 rintro g A L s _ R hA ⟨_,_,rfl,⟨t,rfl⟩,_,_,rfl,⟨u,rfl⟩,rfl⟩
 exact P.in_str (Up.here (d:=.bool _) R rfl h)
theorem SM.str{x:Str}{QM:V->List V->aK->Prop}(h:QM (.val (.builtin "str.isspace")) [.str x] σ):SM C X W σ (.str x) "isspace" QM:=λg A L s ov pl R hA hv=>by
 obtain⟨t,rfl⟩:=hv
 exact PySem.GM.isspace ⟨.val (.builtin "str.isspace"),[.str x],g,σ,dA.refl g,R,rfl,(bX _ [] rfl ⟨t,rfl⟩ rfl),h⟩
theorem SC.isspace{x:Str}(h:Q (.bool (Txt.isspace x)) σ):SC C X W σ (.val (.builtin "str.isspace")) [.str x] Q:=by
 rintro g A L s _ _ R hA rfl ⟨_,_,rfl,⟨t,rfl⟩,rfl⟩
 exact PySem.SC.isspace (Up.here (d:=.bool _) R rfl h)
end
section
variable{C:Cx}{G:b6}{sc:Scope}{n:Nat}{ns:List (Str×Bool)}
noncomputable def Ja(a b:RE):RE:=λenv s k=>a env s λv s=>tn v λc=>Bool.rec (k (.bool false) s) (b env s k) c
theorem ME.and2{e f:Expr}{a b:RE} {pos}(ha:ME C G sc n ns e a)(hb:ME C G sc n ns f b):ME C G sc n ns (.BoolOp .And [e,f] pos) (Ja a b):=λW l env s k h1 h2 h3 h4 hr=>
 SE.and2 (ha.go h1 h2 h3 h4 hr λv s' q=>by
  refine aM (qi q) λc e1r q=>?_
  rw[e1r]
  refine a0 c rfl ?_
  cases c with
  | false=>exact bX (.bool false) s' rfl rfl q
  | true=>exact hb W l env s' k h1 h2 h3 h4 q)
structure FV(G:b6)(t:List (Nat×TV)):Prop where
 signs:∀i r,(i,r)∈t->r.dens G=lP (G.str i)/\(G.str i).cps.all (·<128)=true
noncomputable def D0(t:List (Nat×TV))(i:Nat)(c:TV->Bool):Bool:=List.rec (motive:=λJ=>Bool) false (λp J ih=>Bool.rec ih (c p.2) (bn p.1 i)) t
theorem DZ{t:List (Nat×TV)}:∀{i:Nat}{c:TV->Bool},D0 t i c=true->∃r,(i,r)∈t/\c r=true:=by
 induction t with
 | nil=>exact @λJ J h=>nt h
 | cons hd0 t ih=>
  obtain⟨a,b⟩:=hd0
  intro i c h
  have h:Bool.rec (motive:=λJ=>Bool) (D0 t i c) (c b) (bn a i)=true:=h
  cases q:bn a i with
  | true=>rw[q] at h; rw[<-bk q]; exact a0 b (.head _) h
  | false=>
   rw[q] at h
   refine aM (ih h) λj h1 h2=>?_
   exact a0 j (.tail _ h1) h2
noncomputable def KO(t:List (Nat×TV))(a:RE):RI:=λenv s k=>a env s λv s=>l4.asStr v λi=>D0 t i λr=>k (.tup r) s
theorem MI.str{t:List (Nat×TV)}{tg e:Expr}{a:RE}(ht:FV G t)(ha:ME C G sc n ns e a):MI C G sc n ns tg e (KO t a):=λW l env s k h1 h2 h3 h4 hr=>
 jp.str h2 (ha.go h1 h2 h3 h4 hr λv s' q=>by
  refine aM (eT (v:=v) q) λi e1r q0=>?_
  rw[e1r]
  refine aM (DZ q0) λr hr q=>?_
  obtain⟨g1,g2⟩:=ht.signs i r hr
  exact⟨G.str i,rfl,g2,_,s',rfl,.tup _ r 0 g1,q⟩)
structure Bv(G:b6)(t:List (Nat×Nat)):Prop where
 first:∀i j,(i,j)∈t->∃c,(G.str i).cps[0]?=some c/\G.str j=⟨#[c]⟩
noncomputable def Eb(t:List (Nat×Nat))(a:RE):RE:=λenv s k=>a env s λv s=>l4.asStr v λi=>Bc t i λj=>k (.str j) s
theorem ME.first{t:List (Nat×Nat)}{e:Expr} {kd p1 pos}{a:RE}(ht:Bv G t)(ha:ME C G sc n ns e a):ME C G sc n ns (.Subscript e (.Constant (.int 0) kd p1) pos) (Eb t a):=λW l env s k h1 h2 h3 h4 hr=>
 SE.sub (ha.go h1 h2 h3 h4 hr λv s' q=>by
  refine aM (eT (v:=v) q) λi e1r q0=>?_
  rw[e1r]
  refine aM (xB q0) λj hj q=>?_
  refine aM (ht.first i j hj) λc g1 g2=>?_
  exact SE.int (SI.str g1 (bX (.str j) s' (by rw[<-g2]; rfl) rfl q)))
noncomputable def Ig(js:List Nat)(a:RE):RE:=λenv s k=>a env s λv s=>l4.asStr v λi=>cW (xk i js) (k (.bool false) s)
theorem sJ:∀{i:Nat}{js:List Nat},xk i js=true->i∈js
 | _,[],h=>nt h
 | i,j::js,h=>by
  have h:Bool.rec (motive:=λJ=>Bool) (xk i js) true (bn j i)=true:=h
  cases q:bn j i with
  | true=>rw[bk q]; exact .head _
  | false=>rw[q] at h; exact .tail _ (sJ h)
theorem yK{js:List Nat}{o:Expr} {ap pos}{a:RE}{pl:Env->Sem Bool}(hj:∀j∈js,Txt.isspace (G.str j)=false)
  (he:∀env,eval (.Call (.Attribute o "isspace" ap) [] [] pos) env=(do
   let ov <-eval o env
   standAt ap.atName
   let (f,first) <-holding [ov] (getMethod ov "isspace" (pl env))
   callWith pos f first (backTo pos (starEach [] env)) (backToKw pos (keywordEach [] env))))(ha:ME C G sc n ns o a):ME C G sc n ns (.Call (.Attribute o "isspace" ap) [] [] pos) (Ig js a):=λW l env s k h1 h2 h3 h4 hr=>
 SE.meth rfl he (ha.go h1 h2 h3 h4 hr λv s' q=>by
  refine aM (eT (v:=v) q) λi e1r q=>?_
  subst e1r
  obtain⟨q1,q⟩:=bO q
  exact SM.str ⟨bI.builtin,SL.nil (SC.isspace ((hj i (sJ q1))▸(bX (.bool false) s' rfl rfl q)))⟩)
noncomputable def Ih(js:List Nat)(a:RE):RE:=λenv s k=>a env s λv s=>l4.asStr v λi=>cW (xk i js) (k (.bool false) s)
theorem Gv{js:List Nat}{e:Expr}{y:Str} {kd p1 pos}{a:RE}(hj:∀j∈js,Txt.contains y (G.str j)=false)(ha:ME C G sc n ns e a):MT C G sc n ns (.Compare e [.In] [.Constant (.str y) kd p1] pos) (mz (Ih js a)):=λW l env s k h1 h2 h3 h4 hr=>
 ST.cmp rfl (ha.go h1 h2 h3 h4 hr λv s' q=>by
  refine aM (eT (v:=v) q) λi e1r q=>?_
  subst e1r
  obtain⟨q1,q⟩:=bO q
  exact SE.str (DA ((hj i (sJ q1))▸⟨false,rfl,s',rfl,q⟩)))
end
section
variable{C:Cx}{G:b6}{sc:Scope}{n:Nat}{ns:List (Str×Bool)}
noncomputable def Kt(a:RE):RE:=λenv s k=>a env s λv s=>dw v s λJ ds=>eR ds (s.push (.list (w9 ds .nil)) λp s=>k (.ref p) s)
theorem ME.rev{e:Expr} {kd p1 p2 sp pos}{a:RE}(ha:ME C G sc n ns e a):ME C G sc n ns (.Subscript e (.Slice ax ax (some (.UnaryOp .USub (.Constant (.int 1) kd p1) p2)) sp) pos) (Kt a):=λW l env s k h1 h2 h3 h4 hr=>
 SE.rev (ha.go h1 h2 h3 h4 hr λv s' q=>by
  obtain⟨p,ds,rfl,hp,q⟩:=cG G q
  obtain⟨h5,q⟩:=dt (G:=G) q
  refine bD (cy G q) λz s3 g1 g2 q=>?_
  refine⟨ds.dens G,IsL.ref hp,Z h5 (by simp),.ref z,s3,by rw[<-g1]; rfl,?_,q⟩
  rw[g2]
  show _=aK.push _ (O.list ((w9 ds .nil).dens G))
  rw[rA]
  show _=aK.push _ (O.list ((ds.dens G).reverse++[]))
  rw[dq])
end
noncomputable def tabS(tb:Bool):List Str:=["","+","?","?x","?y","?z","a","alike",bif tb then "c" else "b",bif tb then "d" else "c","like","most","moved","nodes","order","rests","rounds","rule","settled","together","turned","turns","unlike"]
noncomputable def j3(tb:Bool)(k:Nat):Str:=match (tabS tb)[k]? with
 | some x=>x
 | none=>⟨(bZ (k+1) 126).toArray⟩
theorem IZ:∀tb i,i<23->∀j,j<23->i<j->(j3 tb i).cps.toList<(j3 tb j).cps.toList:=by decide+kernel
theorem I0:∀tb i,i<23->(j3 tb i).cps.toList=[]∨∃c r,(j3 tb i).cps.toList=c::r/\c<126:=by
 have:∀tb i,i<23->((j3 tb i).cps.toList.head?.all (·<126))=true:=by decide+kernel
 intro tb i hi
 have h:=this tb i hi
 cases e:(j3 tb i).cps.toList with
 | nil=>exact .inl rfl
 | cons c r=>rw[e] at h; exact .inr (rn c r rfl (by simpa using h))
theorem IY:∀tb i,i<23->cE (j3 tb i)=true:=by decide+kernel
theorem pC{tb:Bool}{k:Nat}(h:23<=k):j3 tb k=⟨(bZ (k+1) 126).toArray⟩:=by
 unfold j3
 rw[cQ (by exact h)]
theorem D7:∀n m:Nat,n<m->bZ n 126<bZ m 126
 | 0,m+1,_=>by exact HN _ _
 | n+1,m+1,h=>by
  exact List.cons_lt_cons_self.mpr (D7 n m (em h))
theorem AC(tb:Bool)(i j:Nat)(h:i<j):(j3 tb i).cps.toList<(j3 tb j).cps.toList:=by
 by_cases hj:j<23
 ·exact IZ tb i (cI h hj) j hj h
 ·by_cases hi:i<23
  ·obtain e | ⟨c,r,e,hc⟩:=I0 tb i hi
   ·rw[e,pC (aF hj)]
    show[]<bZ (j+1) 126
    exact HN _ _
   rw[e,pC (aF hj)]
   show c::r<bZ (j+1) 126
   exact List.cons_lt_cons_iff.mpr (.inl hc)
  ·rw[pC (aF hi),pC (aF hj)]
   exact D7 _ _ (IC h)
theorem JV(tb:Bool)(k:Nat):cE (j3 tb k)=true:=by
 by_cases h:k<23
 ·exact IY tb k h
 ·rw[pC (aF h)]
  dsimp only[cE]
  rw[<-Array.all_toList]
  refine bu.mpr λx hx=>?_
  have:x=126:=by simpa using hx
  rw[this]; decide
noncomputable def FLD(c:Nat):List Str:=match c with
 | 198=>["nodes","numbers","weights","depths"]
 | 236=>["heap"]
 | 263=>["name","left","right","needs"]
 | 301=>["heap"]
 | 356=>["heap","rules","options","walker","placer","history","rounds","rests","wakes"]
 | 438=>["above","lots","merged"]
 | 566=>["bank","unions","edges","forest","known","above","waiting"]
 | _=>[]
structure HV where
 hand:Params->TV->O
 tb:Bool
 od:Bool
noncomputable def GT(od:Bool):Str:=bif od then "rests" else "together"
noncomputable def GV(P:Params)(h:HV):b6:={ str:=j3 h.tb,val:=λJ=>.str (GT h.od),flds:=FLD,P:=P,hand:=h.hand P }
theorem J3(P:Params)(h:HV):cM (GV P h) where
 ok:=JV h.tb
 inj:=λi j e=>by
  rcases fW i j with q | q | q
  ·have:=AC h.tb i j q
   rw[show j3 h.tb i=j3 h.tb j from e] at this
   exact absurd this (iD _)
  ·exact q
  ·have:=AC h.tb j i q
   rw[show j3 h.tb i=j3 h.tb j from e] at this
   exact absurd this (iD _)
 lt:=AC h.tb
theorem findObj_own{K:Frag}{c:Addr}{od:Option Obj}{name:Str}{cd:ClassData}{v:Value}(hc:clsIn K c=some cd)(hn:findIn K (.ref c) name=some ax)(ho:ownOf cd od name=some (some v)):findObj K c od name=some (.value v):=by
 show(clsIn K c).bind _=_
 rw[hc]
 show(findIn K (.ref c) name).bind _=_
 rw[hn]
 show(ownOf cd od name).bind _=_
 rw[ho]
 rfl
section
variable{C:Cx}{X:bc}{W:En}{l:Loc}{σ:aK}{Q:V->aK->Prop}
theorem BQ{o:Expr}{name:Str}{pos:PySem.Pos}(hb:∀env t,attributeBase o name env t=t)
  (h:SE C X W o l σ λd aA=>∃i c fs d',d=.ref i/\aA.get i=some (.inst c fs)/\lw C.K c/\findIn C.K (.ref c) name=some ax/\sP fs name=some d'/\Be d'=true/\Q d' aA) :
  SE C X W (.Attribute o name pos) l σ Q:=λg A cenv L m s p=>by
 simp only[arm_eval_Attribute,hb]
 refine wpAny_bind (SE.then p h λd ov cj aA aQ bH cf hv q=>?_)
 obtain⟨i,c,fs,d',rfl,hi,ok,hn,hl,hh,q⟩:=q
 refine o46 (cf.R.instAt hi hv) λx dx es n e4r tx tdx hdx I hfs=>?_
 subst e4r
 refine aM (hfs.lookIn (x:=name) (n:=n)) λvo hvo r=>?_
 rw[hl] at r
 refine aM r λv e1r rv=>?_
 subst e1r
 have hhv:handedIn v=true:=Cy rv λu e=>by rw[e] at hh; exact hh
 refine aM (any_some ok.dict) λcd hcd hd=>?_
 have hf:findObj C.K c (some (bY es n)) name=some (.value v):=findObj_own hcd hn ((if_pos hd).trans hvo)
 refine wpAny_bind (wpAny_standAt (wpAny_bind (wpAny_holding (get_value cf.R.kin I ok.ga hf hhv ?_))))
 refine wpAny_bind (wpAny_letTemporaryGo (wpAny_pure ?_))
 exact Up.back bH (Up.here (cf.R.toks _) rv q)
end
section
variable{C:Cx}{G:b6}{sc:Scope}{n:Nat}{ns:List (Str×Bool)}
theorem Gw{c i:Nat}{a:RE}{o:Expr}{name:Str} {pos}(f:ed C G c name i)(hb:∀env t,attributeBase o name env t=t)(ha:ME C G sc n ns o a):ME C G sc n ns (.Attribute o name pos) (bq c i a):=λW l env s k h1 h2 h3 h4 hr=>
 BQ hb (ha.go h1 h2 h3 h4 hr λv s' q=>by
  obtain⟨p,ds,rfl,ho,q⟩:=qh G q
  refine aM (rD G q) λw hw q=>?_
  obtain⟨hh,q⟩:=ET (G:=G) q
  exact⟨p.num,c,_,w.den G,rfl,ho,f.cls,f.none,Ck f.pos hw,hh,w,s',rfl,rfl,q⟩)
end
section
variable{C:Cx}{X:bc}{W:En}{l:Loc}{σ:aK}
theorem tU{Q:Fl->Loc->aK->Prop}{elt:Expr}{gs:List Comprehension}{scope:Scope}{y:Str}{py cp pos:PySem.Pos}(hsw:swapsWith (.ListComp elt gs scope cp) (some (.Name y py)) pos.line (lr W.sc)=pure false)(hw:swappedStores [.Name y py] (.ListComp elt gs scope cp) (lr W.sc)=pure .none)
  (h:SE C X W (.ListComp elt gs scope cp) l σ λd σ'=>SG C X W (.Name y py) l σ' d λl' σ''=>Q .next l' σ''):S1 C X W (.Assign [.Name y py] (.ListComp elt gs scope cp) pos) l σ Q:=λg A cenv L m s p J=>by
 have hsw':swapsWithSole [.Name y py] (.ListComp elt gs scope cp) pos.line cenv=pure false:=by
  show swapsWith (.ListComp elt gs scope cp) (some (.Name y py)) pos.line cenv=pure false
  simp only[<-hsw]
  have e1:cenv.blockKind=(lr W.sc).blockKind:=by unfold Env.blockKind; rw[p.E.sc]; rfl
  have e2:cenv.kindOf y=(lr W.sc).kindOf y:=p.E.kindOf y
  dsimp only[swapsWith]
  simp only[e1,e2]
 refine wpAny_Assign_stores (wpAny_mono (h g A cenv L m s p) ?_ λJ J h=>h) hsw' ((kK p.E.sc).trans hw)
 rintro v s' ⟨d,g',σ',x,R,hv,q⟩
 have p':=p.step x R
 have he:(assignEach [.Name y py] cenv).map (·.2)=[PySem.assign (.Name y py) cenv]:=rfl
 refine wpAny_mono (q g' A cenv L m s' v p' hv) ?_ λJ J h=>X.mono x h
 rintro _ s'' ⟨l',g'',σ'',m',y,R',hm,hl,hq⟩
 exact⟨.next,l',g'',σ'',m',(x.l L).trans y,R',hm,hl,rfl,hq⟩
end
section
variable{C:Cx}{G:b6}{sc:Scope}{n:Nat}{ns:List (Str×Bool)}
theorem r0{elt:Expr}{gs:List Comprehension}{scope:Scope}{y:Str}{py cp pos:PySem.Pos}{g:RG}{r:RE}(hsw:swapsWith (.ListComp elt gs scope cp) (some (.Name y py)) pos.line (lr sc)=pure false)(hw:swappedStores [.Name y py] (.ListComp elt gs scope cp) (lr sc)=pure .none)
  (hg:MG C G sc n ns (.Name y py) g)(h:ME C G sc n ns (.ListComp elt gs scope cp) r):M1 C G sc n ns (.Assign [.Name y py] (.ListComp elt gs scope cp) pos) (bK g r):=λW l env s kn kr h1 h2 h3 h4 hr=>
 tU (by rw[h1]; exact hsw) (by exact hw) (h.go h1 h2 h3 h4 hr λv s' q=>by
  exact SG.mono (hg W l env s' v kn h1 h2 h3 h4 q) λl' σ' q=>q)
end
def eZ(r:RE):Prop:=∀env s (K K':KT),(∀v,K v s=true->K' v s=true)->r env s K=true->r env s K'=true
def Bq(t:RT):Prop:=∀env s (K K':Bool->St->Bool),(∀c,K c s=true->K' c s=true)->t env s K=true->t env s K'=true
def Br(r:RF):Prop:=∀a s (K K':KT),(∀v,K v s=true->K' v s=true)->r a s K=true->r a s K'=true
theorem uH:∀{k:Nat}{l:TV}{c c':TV->Bool},(∀v,c v=true->c' v=true)->o9 k l c=true->o9 k l c'=true:=by
 intro k
 induction k with
 | zero=>
  intro l c c' h q
  refine za (ng q) λa r e=>?_
  subst e
  exact h _ q
 | succ k ih=>
  intro l c c' h q
  refine za (ng q) λa r e=>?_
  subst e
  exact ih (l:=r) h q
theorem B8{v:TV}{b b':Bool}(h:b=true->b'=true)(q:q6 v b=true):q6 v b'=true:=by
 cases v<;>first | exact h q | exact nt q
theorem zm{v:TV}{b b':Bool}(h:b=true->b'=true)(q:xE v b=true):xE v b'=true:=by
 cases v<;>first | exact h q | exact nt q
theorem nQ{p:Pos}{s:St}{k k':TO->Bool}(h:∀o,k o=true->k' o=true)(q:s.at p k=true):s.at p k'=true:=by
 obtain⟨nx,t⟩:=s
 have q:Option.rec (motive:=λJ=>Bool) false k (Tr.get p t)=true:=q
 show Option.rec (motive:=λJ=>Bool) false k' (Tr.get p t)=true
 cases e:Tr.get p t with
 | none=>rw[e] at q; exact nt q
 | some o=>rw[e] at q; exact h o q
theorem qj{a b b':Bool}(h:b=true->b'=true)(q:cW a b=true):cW a b'=true:=by
 cases a with
 | false=>exact nt q
 | true=>exact h q
theorem x9{c:Nat}{v:TV}{s:St}{k k':Pos->TV->Bool}(h:∀p d,k p d=true->k' p d=true)(q:og c v s k=true):og c v s k'=true:=by
 cases v with
 | ref p=>
  refine nQ (p:=p) (s:=s) (λo q=>?_) q
  cases o with
  | inst c' ds=>exact qj (h p ds) q
  | _=>exact nt q
 | _=>exact nt q
theorem qO{v:TV}{s:St}{k k':Pos->Nat->TV->Bool}(h:∀p c d,k p c d=true->k' p c d=true)(q:iA v s k=true):iA v s k'=true:=by
 cases v with
 | ref p=>
  refine nQ (p:=p) (s:=s) (λo q=>?_) q
  cases o with
  | dict c ds=>exact h p c ds q
  | _=>exact nt q
 | _=>exact nt q
theorem Ax{v:TV}{s:St}{k k':TV->Bool}(h:∀d,k d=true->k' d=true)(q:qN v s k=true):qN v s k'=true:=by
 cases v with
 | tup ds=>exact h ds q
 | ref p=>
  refine nQ (p:=p) (s:=s) (λo q=>?_) q
  cases o with
  | list ds=>exact h ds q
  | _=>exact nt q
 | _=>exact nt q
theorem lO{n n':Bool}{c c':TV->TV->Bool}{l:TV}(hn:n=true->n'=true)(h:∀a r,c a r=true->c' a r=true)(q:bW n c l=true):bW n' c' l=true:=by
 cases l<;>first | exact nt q | exact hn q | exact h _ _ q
theorem Ay{a:TV}{c c':TV->Bool}(h:∀x,c x=true->c' x=true)(q:lu a c=true):lu a c'=true:=
 lO (λe=>e) (λJ J q=>lO (h _) (λJ J e=>e) q) q
theorem zf{eq:TV->TV->Bool->Bool->Bool}(he:∀x y t t' f f',(t=true->t'=true)->(f=true->f'=true)->eq x y t f=true->eq x y t' f'=true){k:TV}{c c':TV->Bool}{n n':Bool}(h:∀v,c v=true->c' v=true)(hn:n=true->n'=true) :
  ∀{r:TV},mM eq k c n r=true->mM eq k c' n' r=true:=λ{r}=>by
 induction r with
 | nil=>exact hn
 | cons p r _ ih=>exact λq=>lO (λe=>e) (λJ v q=>he _ _ _ _ _ _ (h v) ih q) q
 | _=>exact λq=>nt q
theorem my{v:TV}{a a' b b' c c':Nat->Bool}{d d':TV->Bool}{e e':Pos->Bool}(ha:∀x,a x=true->a' x=true)(hb:∀x,b x=true->b' x=true)(hc:∀x,c x=true->c' x=true)(hd:∀x,d x=true->d' x=true)(he:∀x,e x=true->e' x=true)(q:na v a b c d e=true):na v a' b' c' d' e'=true:=by
 cases v<;>first | exact ha _ q | exact hb _ q | exact hc _ q | exact hd _ q | exact he _ q | exact nt q
theorem Fx(x y:TV)(t t' f f':Bool)(ht:t=true->t'=true)(hf:f=true->f'=true)(q:Iw x y t f=true):Iw x y t' f'=true:=
 my (λJ e=>e) (λJ e=>e) (λi q=>my (λJ e=>e) (λJ e=>e) (λj q=>by
  cases e:bn i j with
  | true=>rw[e] at q; exact ht q
  | false=>rw[e] at q; exact hf q) (λJ e=>e) (λJ e=>e) q) (λJ e=>e) (λJ e=>e) q
section
theorem eZ.loc{i:Nat}:eZ (ae i):=λJ J J J h q=>uH (λv q=>B8 (h v) q) q
theorem eZ.nil:eZ aq:=λJ J J J h q=>h .nil q
theorem eZ.cons{a b:RE}(ha:eZ a)(hb:eZ b):eZ (aa a b):=λenv s K K' h q=>
 ha env s _ (λv s=>b env s λr s=>K' (.cons v r) s) (λv q=>hb env s _ (λr s=>K' (.cons v r) s) (λr q=>h _ q) q) q
theorem eZ.fld{c i:Nat}{a:RE}(ha:eZ a):eZ (bq c i a):=λenv s K K' h q=>
 ha env s _ (λv s=>og c v s λJ ds=>o9 i ds λw=>xE w (K' w s)) (λv q=>x9 (λJ J q=>uH (λw q=>zm (h w) q) q) q) q
theorem eZ.call{f:RF}{a:RE}(hf:Br f)(ha:eZ a):eZ (aO f a):=λenv s K K' h q=>
 ha env s _ (λv s=>f v s K') (λv q=>hf v s K K' h q) q
theorem Br.len:Br fZ:=λJ J J J h q=>Ay (λJ q=>Ax (λJ q=>qj (h _) q) q) q
theorem Bq.cmp{c:TV->TV->St->(Bool->Bool)->Bool}{a b:RE}(hc:∀x y s k k',(∀z,k z=true->k' z=true)->c x y s k=true->c x y s k'=true)(ha:eZ a)(hb:eZ b):Bq (cg c a b):=λenv s K K' h q=>
 ha env s _ (λx s=>b env s λy s=>c x y s λz=>K' z s) (λx q=>hb env s _ (λy s=>c x y s λz=>K' z s) (λy q=>hc x y s _ (λz=>K' z s) h q) q) q
theorem Ev(x y:TV)(k k':Bool->Bool)(h:∀z,k z=true->k' z=true)(q:Io x y k=true):Io x y k'=true:=
 my (λJ q=>my (λJ q=>h _ q) (λJ q=>h _ q) (λJ e=>e) (λJ e=>e) (λJ e=>e) q) (λJ q=>my (λJ q=>h _ q) (λJ q=>h _ q) (λJ e=>e) (λJ e=>e) (λJ e=>e) q) (λJ e=>e) (λJ e=>e) (λJ e=>e) q
theorem B3{r:TV}{c c':Nat}{b b':Bool}(h:b=true->b'=true)(q:oR r c c' b=true):oR r c c' b'=true:=lO h (λJ J q=>qj h q) q
theorem yJ{o:RE}{j:Nat}{d:TV}(ho:eZ o):eZ (dD .dict sD o (aa (rK (.str j)) (aa (rK d) aq))):=λenv s K K' h q=>
 ho env s _ (λv s=>rcv .dict v s (iA v s λJ c r=>oR r c 0 (mM Iw (.str j) (λw=>K' w s) (K' d s) r)))
  (λv q=>qO (λJ J J q=>qO (λJ J J q=>B3 (λq=>zf Fx (λw=>h w) (h d) q) q) q) q) q
end
noncomputable def GC(v:TV)(a b:Bool):Bool:=
 TV.rec (motive:=λJ=>Bool) b b (λJ=>b) (λJ=>b) (λJ=>b) (λJ=>b) (λJ J=>b) (λJ=>b) (λJ=>a) (λJ=>b) b (λJ J J J=>b) v
theorem vt{v:TV}{a b:Bool}(h:GC v a b=true):(∃i,v=.val i/\a=true)∨b=true:=by
 cases v<;>first | exact .inr h | exact .inl (a0 _ rfl h)
section
variable{C:Cx}{P:Params}{h:HV}{sc:Scope}{n:Nat}{ns:List (Str×Bool)}
noncomputable def AU(js:List Nat)(a:RE):RT:=λenv s k=>a env s λv s=>GC v (k false s) (l4.asStr v λi=>k (!(xk i js)) s)
theorem BZ{e:Expr}{x:Str} {np pos}{a:RE}{f:Addr}{vs:List Value}(hk:sc.names.lookup x=some .globalImplicit)(e1:nsIn C.K mainGlobals x=some (some (.ref f)))(hd:(x==("__debug__":Str))=false)(ht:C.K.lookup f=some (aN vs))(hv:StrsAre vs (([19,21,15]:List Nat).map (GV P h).str))
  (ha:ME C (GV P h) sc n ns e a):MT C (GV P h) sc n ns (.Compare e [.NotIn] [.Name x np] pos) (AU [19,21,15] a):=λW l env s k h1 h2 h3 h4 hr=>
 ST.cmp rfl (ha.go h1 h2 h3 h4 hr λv s' q=>by
  have H:∃i,v.den (GV P h)=.str ((GV P h).str i)/\k (!(xk i [19,21,15])) s'=true:=by
   rcases vt q with ⟨i,rfl,q⟩ | q
   ·refine a0 (bif h.od then 15 else 19) ?_ ?_
    ·show V.str (GT h.od)=V.str (j3 h.tb _)
     cases h.od<;>rfl
    ·cases h.od<;>exact q
   ·refine aM (eT (v:=v) q) λi e1r q=>?_
    rw[e1r]
    exact a0 i rfl q
  refine aM H λi e q=>?_
  rw[e]
  refine oE ((h1)▸hk) e1 (u6 ht hv (λy hy=>?_) ((J3 P h).ok i) ⟨_,rfl,s',rfl,?_⟩) hd
  ·refine aM (a8.mp hy) λj J e2r=>?_
   subst e2r
   exact(J3 P h).ok j
  ·rw[A3 (J3 P h)]; exact q)
noncomputable def AS(a:RE):RT:=λenv s k=>a env s λv s=>GC v (k false s) (l4.asStr v λi=>k (bn i 21) s)
theorem BX{e:Expr} {kd p1 pos}{a:RE}(ha:ME C (GV P h) sc n ns e a):MT C (GV P h) sc n ns (.Compare e [.Eq] [.Constant (.str "turns") kd p1] pos) (AS a):=λW l env s k h1 h2 h3 h4 hr=>
 ST.cmp rfl (ha.go h1 h2 h3 h4 hr λv s' q=>by
  rcases vt q with ⟨i,rfl,q⟩ | q
  ·refine SE.str (oB ⟨_,rfl,s',rfl,?_⟩)
   have e:(GT h.od==("turns":Str))=false:=by cases h.od<;>rfl
   rw[e]; exact q
  ·refine aM (eT (v:=v) q) λi e1r q=>?_
   subst e1r
   refine SE.str (oB ⟨_,rfl,s',rfl,?_⟩)
   have e:(j3 h.tb i==("turns":Str))=bn i 21:=sg (J3 P h) i 21
   show k (j3 h.tb i==("turns":Str)) s'=true
   rw[e]; exact q)
noncomputable def AT(a:RE)(b:RT):RT:=λenv s k=>a env s λv s=>GC v (cW (b env s λc J=>!c) (k false s)) (l4.asStr v λi=>Bool.rec (k false s) (b env s k) (bn i 15))
theorem BY{e f:Expr} {kd p1 p2 pos}{a:RE}{b:RT}(hp:Bq b)(ha:ME C (GV P h) sc n ns e a)(hb:MT C (GV P h) sc n ns f b):MT C (GV P h) sc n ns (.BoolOp .And [.Compare e [.Eq] [.Constant (.str "rests") kd p1] p2,f] pos) (AT a b):=λW l env s k h1 h2 h3 h4 hr=>
 ST.boolOp (SA.consAnd (ST.cmp rfl (ha.go h1 h2 h3 h4 hr λv s' q=>by
  rcases vt q with ⟨i,rfl,q⟩ | q
  ·obtain⟨q1,q2⟩:=bO q
   refine SE.str (oB (a0 _ rfl ?_))
   show if (GT h.od==("rests":Str))=true then _ else _
   cases e:h.od with
   | false=>
    exact⟨s',rfl,q2⟩
   | true=>
    refine SA.consAnd ?_
    have q3:=hp env s' (λc J=>!c) (λc s''=>@decide (c=false/\s''=s') (Classical.propDecidable _)) (λc hc=>by
     exact @decide_eq_true _ (Classical.propDecidable _) ⟨by simpa using hc,rfl⟩) q1
    refine ST.mono (hb W l env s' _ h1 h2 h3 h4 q3) λc σ hq=>aM hq λs'' e2 q4=>?_
    refine eV (@of_decide_eq_true _ (Classical.propDecidable _) q4) λe0r e1r=>?_
    rw[e0r]
    subst e1r
    exact a0 s'' e2 q2
  ·refine aM (eT (v:=v) q) λi e1r q=>?_
   subst e1r
   refine SE.str (oB (a0 _ rfl ?_))
   have e:(j3 h.tb i==("rests":Str))=bn i 15:=sg (J3 P h) i 15
   show if (j3 h.tb i==("rests":Str))=true then _ else _
   rw[e]
   have q:Bool.rec (motive:=λJ=>Bool) (k false s') (b env s' k) (bn i 15)=true:=q
   cases e3:bn i 15 with
   | false=>
    rw[e3] at q
    exact⟨s',rfl,q⟩
   | true=>
    rw[e3] at q
    refine SA.consAnd (ST.mono (hb W l env s' k h1 h2 h3 h4 q) λc σ q=>?_)
    cases c with
    | true=>exact SA.nilAnd q
    | false=>exact q)))
end
section
variable{C:Cx}{G:b6}{sc:Scope}{n:Nat}{ns:List (Str×Bool)}
theorem eL(i:Nat){x:Str} {pos}(h:(ns[i]?==some (x,false)&&(sc.names.lookup x==some .local&&!(x==("__debug__":Str))))=true):ME C G sc n ns (.Name x pos) (ae i):=
 ME.loc (eq_of_beq (dZ h).1) (eq_of_beq (dZ (dZ h).2).1) (qF (dZ (dZ h).2).2)
theorem eC(i:Nat){x:Str} {pos}(h:(ns[i]?==some (x,true)&&((sc.names.lookup x==some .cell||sc.names.lookup x==some .free)&&(!(x==("__debug__":Str))&&!(x==("__classdict__":Str)))))=true):ME C G sc n ns (.Name x pos) (az i):=
 ME.cell (eq_of_beq (dZ h).1) (((nv _ _)▸(dZ (dZ h).2).1:_∨_).imp eq_of_beq eq_of_beq) (qF (dZ (dZ (dZ h).2).2).1) (qF (dZ (dZ (dZ h).2).2).2)
theorem gL(i:Nat){x:Str} {pos}(h:(sc.names.lookup x==some .local&&xA ns x i)=true):MG C G sc n ns (.Name x pos) (bo i):=
 MG.loc (eq_of_beq (dZ h).1) (dZ h).2
theorem gC(i:Nat){x:Str} {pos}(h:(ns[i]?==some (x,true)&&sc.names.lookup x==some .cell)=true):MG C G sc n ns (.Name x pos) (g6 i):=
 MG.cell (eq_of_beq (dZ h).1) (eq_of_beq (dZ h).2)
theorem lC{e:Expr}{es:List Expr}{a b:RE}(ha:ME C G sc n ns e a)(hb:ML C G sc n ns es b)(hs:dW e=true):ML C G sc n ns (e::es) (aa a b):=ML.cons ha hb hs
theorem eM{o:Expr}{name:Str} {apos pos}{args:List Expr}{pl:Env->Sem Bool}{c:Nat}{f:Addr}{m:Nat}{r:RF}{ro a:RE}(hf:MF C G f m r)(mo:df C G c name f)(ho:ME C G sc n ns o ro)(ha:ML C G sc n ns args a)(hm:(bm m n&&dP args)=true)
  (he:∀env,eval (.Call (.Attribute o name apos) args [] pos) env=(do
   let ov <-eval o env
   standAt apos.atName
   let (f,first) <-holding [ov] (getMethod ov name (pl env))
   callWith pos f first (backTo pos (starEach args env)) (backToKw pos (keywordEach [] env)))):ME C G sc n ns (.Call (.Attribute o name apos) args [] pos) (bw c r ro a):=
 ME.meth hf (N (dZ hm).1) mo (dZ hm).2 he ho ha
theorem tC{op:CmpOp}{c:TV->TV->St->(Bool->Bool)->Bool}{e f:Expr}{a b:RE} {pos}(hc:MC C G op c)(ha:ME C G sc n ns e a)(hb:ME C G sc n ns f b)(hm:behindInMarks op f=false):MT C G sc n ns (.Compare e [op] [f] pos) (cg c a b):=MT.cmp hc hm ha hb
theorem fA{c i:Nat}{a:RE}{o:Expr}{name:Str} {pos}(f:ed C G c name i)(ha:ME C G sc n ns o a)(hb:∀env t,attributeBase o name env t=t):ME C G sc n ns (.Attribute o name pos) (bq c i a):=Gw f hb ha
theorem aS{t e:Expr} {pos}{g:RG}{r:RE}(hg:MG C G sc n ns t g)(h:ME C G sc n ns e r)(hn:(jk e&&dW t)=true)(hw:swappedStores [t] e (lr sc)=pure .none):M1 C G sc n ns (.Assign [t] e pos) (bK g r):=M1.assign (dZ hn).1 hw (dZ hn).2 hg h
noncomputable def fnB(K:Frag)(cdv:Value)(qual:Str)(scope:Scope)(ps:List Str)(m u:Nat)(cs:List (Str×Option Nat))(ls:List (Str×Nat))(rest:List (Str×Bool)):Bool:=
 codeIn K cdv qual&&(!scope.isCoroutine&&(!scope.isGenerator&&(decide (scope.kind=.function)&&(decide (((cellsFrom 0 scope.names []).map (·.1)).Nodup)&&((ps.all λx=>scope.names.lookup x==some .local||(scope.names.lookup x==some .cell&&((cellsFrom 0 scope.names []).lookup x).isSome))&&(ps.length==m&&(rest.length==u&&y0 scope ps cs ls rest)))))))
inductive FnB(K:Frag)(cdv:Value)(qual:Str)(scope:Scope)(ps:List Str)(m u:Nat)(cs:List (Str×Option Nat))(ls:List (Str×Nat))(rest:List (Str×Bool)):Prop
 | mk (a:codeIn K cdv qual=true)(b:kF scope ps)(c:ps.length=m)(d:rest.length=u)(e:yf scope ps cs ls rest):FnB K cdv qual scope ps m u cs ls rest
theorem Fv{K:Frag}{cdv:Value}{qual:Str}{scope:Scope}{ps:List Str}{m u:Nat}{cs:List (Str×Option Nat)}{ls:List (Str×Nat)}{rest:List (Str×Bool)}(h:fnB K cdv qual scope ps m u cs ls rest=true):FnB K cdv qual scope ps m u cs ls rest:=
 have a:=dZ h; have b:=dZ a.2; have c:=dZ b.2; have d:=dZ c.2; have e:=dZ d.2; have f:=dZ e.2; have g:=dZ f.2; have i:=dZ g.2
 ⟨a.1,.of (qF b.1) (qF c.1) (of_decide_eq_true d.1) (of_decide_eq_true e.1) f.1,eq_of_beq g.1,eq_of_beq i.1,.of i.2⟩
section
variable{α:Type}{vs:List α}
theorem G6{n:Nat}(h:vs.length=n+1):∃a r,vs=a::r/\r.length=n:=by
 cases vs with
 | nil=>cases h
 | cons a r=>exact⟨a,r,rfl,pG h⟩
theorem G7(h:vs.length=1):∃a,vs=[a]:=AI.mp h
theorem Jx(h:vs.length=2):∃a b,vs=[a,b]:=oq (G6 h) λa J e k=>ik (G7 k) λb e'=>⟨a,b,e.trans (e'▸rfl)⟩
theorem KL(h:vs.length=3):∃a b c,vs=[a,b,c]:=oq (G6 h) λa J e k=>za (Jx k) λb c e'=>⟨a,b,c,e.trans (e'▸rfl)⟩
theorem KK(h:vs.length=4):∃a b c d,vs=[a,b,c,d]:=oq (G6 h) λa J e k=>o31 (KL k) λb c d e'=>⟨a,b,c,d,e.trans (e'▸rfl)⟩
theorem len5(h:vs.length=5):∃a b c d f,vs=[a,b,c,d,f]:=oq (G6 h) λa J e k=>o41 (KK k) λb c d f e'=>⟨a,b,c,d,f,e.trans (e'▸rfl)⟩
end
section
variable{F:FuncData}{xs:List Str}
theorem b1(h:∀a,bindArgs F ⟨[a],[]⟩=pure (xs.zip [a]))(vs:List Value)(e:vs.length=1):bindArgs F ⟨vs,[]⟩=pure (xs.zip vs):=ik (G7 e) λa e=>e▸h a
theorem b2(h:∀a b,bindArgs F ⟨[a,b],[]⟩=pure (xs.zip [a,b]))(vs:List Value)(e:vs.length=2):bindArgs F ⟨vs,[]⟩=pure (xs.zip vs):=za (Jx e) λa b e=>e▸h a b
theorem b3(h:∀a b c,bindArgs F ⟨[a,b,c],[]⟩=pure (xs.zip [a,b,c]))(vs:List Value)(e:vs.length=3):bindArgs F ⟨vs,[]⟩=pure (xs.zip vs):=o31 (KL e) λa b c e=>e▸h a b c
theorem b4(h:∀a b c d,bindArgs F ⟨[a,b,c,d],[]⟩=pure (xs.zip [a,b,c,d]))(vs:List Value)(e:vs.length=4):bindArgs F ⟨vs,[]⟩=pure (xs.zip vs):=o41 (KK e) λa b c d e=>e▸h a b c d
theorem b5(h:∀a b c d f,bindArgs F ⟨[a,b,c,d,f],[]⟩=pure (xs.zip [a,b,c,d,f]))(vs:List Value)(e:vs.length=5):bindArgs F ⟨vs,[]⟩=pure (xs.zip vs):=o51 (len5 e) λa b c d f e=>e▸h a b c d f
end
section
variable{a:Addr}{oc:Value}{od:Option Addr}{osl:Array (Option Value)}{name qual:Str}{params:Arguments}{body:List Stmt}{scope:Scope}{dV kV doc pm cdv ct:Value}{an:Option Addr}{n m u:Nat}{cs:List (Str×Option Nat)}{ls:List (Str×Nat)}{rest:List (Str×Bool)}{rb:RS}(hK:C.K=KF C.w.params)
include hK
theorem j0(ho:(KF C.w.params).lookup a=some ⟨oc,od,.func (fnOf name qual params body scope dV kV doc pm an cdv ct),osl⟩)(hc:fnB (KF C.w.params) cdv qual scope (bh params) m u cs ls rest=true)
  (hb:∀vs:List Value,vs.length=m->bindArgs (fnOf name qual params body scope dV kV doc pm an cdv ct) ⟨vs,[]⟩=pure ((bh params).zip vs))
  (h:MS C G scope n (cs.reverse.map (λc=>(c.1,true))++(ls.map (λx=>(x.1,false))++rest)) body rb):MF C G a (n+1) (cT m (cs.map (·.2)) (ls.map (·.2)) u rb):=by
 cases Fv hc with
 | mk x1 x2 x3 x4 x5=>exact MF.fn (by rw[hK]; exact ho) (by rw[hK]; exact x1) x2 x3 x4 hb x5 h
theorem zp(ho:(KF C.w.params).lookup a=some ⟨oc,od,.func (fnOf name qual params body scope dV kV doc pm an cdv ct),osl⟩)(hc:fnB (KF C.w.params) cdv qual scope (bh params) m u cs ls rest=true)
  (hb:∀vs:List Value,vs.length=m->bindArgs (fnOf name qual params body scope dV kV doc pm an cdv ct) ⟨vs,[]⟩=pure ((bh params).zip vs))
  (h:MS C G scope n (cs.reverse.map (λc=>(c.1,true))++(ls.map (λx=>(x.1,false))++rest)) body rb):C7 C G a (n+1) (cT m (cs.map (·.2)) (ls.map (·.2)) u rb):=by
 cases Fv hc with
 | mk x1 x2 x3 x4 x5=>exact C7.fn (by rw[hK]; exact ho) (by rw[hK]; exact x1) x2 x3 x4 hb x5 h
theorem eF{sc:Scope}{x:Str} {np pos}{args:List Expr}{f:Addr}{m:Nat}{r:RF}{b:RE}(hf:MF C G f m r)(ha:ML C G sc n ns args b)(e:nsIn (KF C.w.params) mainGlobals x=some (some (.ref f)))(hk:keepIn (KF C.w.params) (.ref f)=true)
  (hc:(bm m n&&(sc.names.lookup x==some .globalImplicit&&(!(x==("__debug__":Str))&&dP args)))=true):ME C G sc n ns (.Call (.Name x np) args [] pos) (aO r b):=
 have c:=dZ hc; have d:=dZ c.2; have g:=dZ d.2
 ME.call hf (N c.1) (eq_of_beq d.1) (by rw[hK]; exact e) (qF g.1) (by rw[hK]; exact hk) g.2 ha
end
theorem eB{x:Str} {np pos}{args:List Expr}{v:Value}{r:RF}{a:RE}(hv:MV C G v r)(b:fX C sc x v)(hk:bI C (.val v))(ha:ML C G sc n ns args a)(hs:dP args=true):ME C G sc n ns (.Call (.Name x np) args [] pos) (aO r a):=DM hv b hk hs ha
end
section
variable{C:Cx}{hand:HV}(hK:C.K=KF C.w.params)
include hK
theorem fU:lw C.K 198:=by rw[hK]; exact⟨rfl,rfl,rfl,rfl,rfl⟩
theorem jO:ed C (GV C.w.params hand) 198 "nodes" 0:=⟨fU hK,by rw[hK]; rfl,rfl⟩
theorem Fp:cX C (GV C.w.params hand) 198 "nodes" 0:=⟨fU hK,by rw[hK]; rfl,rfl,rfl⟩
theorem s4:ed C (GV C.w.params hand) 198 "numbers" 1:=⟨fU hK,by rw[hK]; rfl,rfl⟩
theorem Fo:cX C (GV C.w.params hand) 198 "numbers" 1:=⟨fU hK,by rw[hK]; rfl,rfl,rfl⟩
theorem xM:ed C (GV C.w.params hand) 198 "weights" 2:=⟨fU hK,by rw[hK]; rfl,rfl⟩
theorem Fn:cX C (GV C.w.params hand) 198 "weights" 2:=⟨fU hK,by rw[hK]; rfl,rfl,rfl⟩
theorem xL:ed C (GV C.w.params hand) 198 "depths" 3:=⟨fU hK,by rw[hK]; rfl,rfl⟩
theorem Fm:cX C (GV C.w.params hand) 198 "depths" 3:=⟨fU hK,by rw[hK]; rfl,rfl,rfl⟩
theorem Jr:mZ C 198 110:=⟨by rw[hK]; rfl,by rw[hK]; rfl,by rw[hK]; rfl,by rw[hK]; rfl⟩
theorem pu:lw C.K 236:=by rw[hK]; exact⟨rfl,rfl,rfl,rfl,rfl⟩
theorem sZ:ed C (GV C.w.params hand) 236 "heap" 0:=⟨pu hK,by rw[hK]; rfl,rfl⟩
theorem Fk:cX C (GV C.w.params hand) 236 "heap" 0:=⟨pu hK,by rw[hK]; rfl,rfl,rfl⟩
theorem Jq:mZ C 236 216:=⟨by rw[hK]; rfl,by rw[hK]; rfl,by rw[hK]; rfl,by rw[hK]; rfl⟩
theorem kB:lw C.K 263:=by rw[hK]; exact⟨rfl,rfl,rfl,rfl,rfl⟩
theorem pp:ed C (GV C.w.params hand) 263 "name" 0:=⟨kB hK,by rw[hK]; rfl,rfl⟩
theorem Fj:cX C (GV C.w.params hand) 263 "name" 0:=⟨kB hK,by rw[hK]; rfl,rfl,rfl⟩
theorem xK:ed C (GV C.w.params hand) 263 "left" 1:=⟨kB hK,by rw[hK]; rfl,rfl⟩
theorem Fi:cX C (GV C.w.params hand) 263 "left" 1:=⟨kB hK,by rw[hK]; rfl,rfl,rfl⟩
theorem Fu:ed C (GV C.w.params hand) 263 "right" 2:=⟨kB hK,by rw[hK]; rfl,rfl⟩
theorem Fh:cX C (GV C.w.params hand) 263 "right" 2:=⟨kB hK,by rw[hK]; rfl,rfl,rfl⟩
theorem xJ:ed C (GV C.w.params hand) 263 "needs" 3:=⟨kB hK,by rw[hK]; rfl,rfl⟩
theorem Fg:cX C (GV C.w.params hand) 263 "needs" 3:=⟨kB hK,by rw[hK]; rfl,rfl,rfl⟩
theorem Et:mZ C 263 253:=⟨by rw[hK]; rfl,by rw[hK]; rfl,by rw[hK]; rfl,by rw[hK]; rfl⟩
theorem rJ:lw C.K 301:=by rw[hK]; exact⟨rfl,rfl,rfl,rfl,rfl⟩
theorem Ft:ed C (GV C.w.params hand) 301 "heap" 0:=⟨rJ hK,by rw[hK]; rfl,rfl⟩
theorem Ff:cX C (GV C.w.params hand) 301 "heap" 0:=⟨rJ hK,by rw[hK]; rfl,rfl,rfl⟩
theorem Jp:mZ C 301 281:=⟨by rw[hK]; rfl,by rw[hK]; rfl,by rw[hK]; rfl,by rw[hK]; rfl⟩
theorem cV:lw C.K 356:=by rw[hK]; exact⟨rfl,rfl,rfl,rfl,rfl⟩
theorem lq:ed C (GV C.w.params hand) 356 "heap" 0:=⟨cV hK,by rw[hK]; rfl,rfl⟩
theorem Fe:cX C (GV C.w.params hand) 356 "heap" 0:=⟨cV hK,by rw[hK]; rfl,rfl,rfl⟩
theorem jN:ed C (GV C.w.params hand) 356 "rules" 1:=⟨cV hK,by rw[hK]; rfl,rfl⟩
theorem Fd:cX C (GV C.w.params hand) 356 "rules" 1:=⟨cV hK,by rw[hK]; rfl,rfl,rfl⟩
theorem mT:ed C (GV C.w.params hand) 356 "options" 2:=⟨cV hK,by rw[hK]; rfl,rfl⟩
theorem Fc:cX C (GV C.w.params hand) 356 "options" 2:=⟨cV hK,by rw[hK]; rfl,rfl,rfl⟩
theorem Fs:ed C (GV C.w.params hand) 356 "walker" 3:=⟨cV hK,by rw[hK]; rfl,rfl⟩
theorem Fb:cX C (GV C.w.params hand) 356 "walker" 3:=⟨cV hK,by rw[hK]; rfl,rfl,rfl⟩
theorem sY:ed C (GV C.w.params hand) 356 "placer" 4:=⟨cV hK,by rw[hK]; rfl,rfl⟩
theorem Fa:cX C (GV C.w.params hand) 356 "placer" 4:=⟨cV hK,by rw[hK]; rfl,rfl,rfl⟩
theorem po:ed C (GV C.w.params hand) 356 "history" 5:=⟨cV hK,by rw[hK]; rfl,rfl⟩
theorem E9:cX C (GV C.w.params hand) 356 "history" 5:=⟨cV hK,by rw[hK]; rfl,rfl,rfl⟩
theorem iX:ed C (GV C.w.params hand) 356 "rounds" 6:=⟨cV hK,by rw[hK]; rfl,rfl⟩
theorem xG:cX C (GV C.w.params hand) 356 "rounds" 6:=⟨cV hK,by rw[hK]; rfl,rfl,rfl⟩
theorem sX:ed C (GV C.w.params hand) 356 "rests" 7:=⟨cV hK,by rw[hK]; rfl,rfl⟩
theorem E8:cX C (GV C.w.params hand) 356 "rests" 7:=⟨cV hK,by rw[hK]; rfl,rfl,rfl⟩
theorem sW:ed C (GV C.w.params hand) 356 "wakes" 8:=⟨cV hK,by rw[hK]; rfl,rfl⟩
theorem E7:cX C (GV C.w.params hand) 356 "wakes" 8:=⟨cV hK,by rw[hK]; rfl,rfl,rfl⟩
theorem Jo:mZ C 356 317:=⟨by rw[hK]; rfl,by rw[hK]; rfl,by rw[hK]; rfl,by rw[hK]; rfl⟩
theorem gB:lw C.K 438:=by rw[hK]; exact⟨rfl,rfl,rfl,rfl,rfl⟩
theorem g9:ed C (GV C.w.params hand) 438 "above" 0:=⟨gB hK,by rw[hK]; rfl,rfl⟩
theorem E6:cX C (GV C.w.params hand) 438 "above" 0:=⟨gB hK,by rw[hK]; rfl,rfl,rfl⟩
theorem mS:ed C (GV C.w.params hand) 438 "lots" 1:=⟨gB hK,by rw[hK]; rfl,rfl⟩
theorem E5:cX C (GV C.w.params hand) 438 "lots" 1:=⟨gB hK,by rw[hK]; rfl,rfl,rfl⟩
theorem Fr:ed C (GV C.w.params hand) 438 "merged" 2:=⟨gB hK,by rw[hK]; rfl,rfl⟩
theorem E4:cX C (GV C.w.params hand) 438 "merged" 2:=⟨gB hK,by rw[hK]; rfl,rfl,rfl⟩
theorem Jn:mZ C 438 374:=⟨by rw[hK]; rfl,by rw[hK]; rfl,by rw[hK]; rfl,by rw[hK]; rfl⟩
theorem cv:lw C.K 566:=by rw[hK]; exact⟨rfl,rfl,rfl,rfl,rfl⟩
theorem pn:ed C (GV C.w.params hand) 566 "bank" 0:=⟨cv hK,by rw[hK]; rfl,rfl⟩
theorem E3:cX C (GV C.w.params hand) 566 "bank" 0:=⟨cv hK,by rw[hK]; rfl,rfl,rfl⟩
theorem lp:ed C (GV C.w.params hand) 566 "unions" 1:=⟨cv hK,by rw[hK]; rfl,rfl⟩
theorem E2:cX C (GV C.w.params hand) 566 "unions" 1:=⟨cv hK,by rw[hK]; rfl,rfl,rfl⟩
theorem sV:ed C (GV C.w.params hand) 566 "edges" 2:=⟨cv hK,by rw[hK]; rfl,rfl⟩
theorem E1:cX C (GV C.w.params hand) 566 "edges" 2:=⟨cv hK,by rw[hK]; rfl,rfl,rfl⟩
theorem xI:ed C (GV C.w.params hand) 566 "forest" 3:=⟨cv hK,by rw[hK]; rfl,rfl⟩
theorem E0:cX C (GV C.w.params hand) 566 "forest" 3:=⟨cv hK,by rw[hK]; rfl,rfl,rfl⟩
theorem xH:ed C (GV C.w.params hand) 566 "known" 4:=⟨cv hK,by rw[hK]; rfl,rfl⟩
theorem EZ:cX C (GV C.w.params hand) 566 "known" 4:=⟨cv hK,by rw[hK]; rfl,rfl,rfl⟩
theorem ln:ed C (GV C.w.params hand) 566 "above" 5:=⟨cv hK,by rw[hK]; rfl,rfl⟩
theorem EY:cX C (GV C.w.params hand) 566 "above" 5:=⟨cv hK,by rw[hK]; rfl,rfl,rfl⟩
theorem sU:ed C (GV C.w.params hand) 566 "waiting" 6:=⟨cv hK,by rw[hK]; rfl,rfl⟩
theorem EX:cX C (GV C.w.params hand) 566 "waiting" 6:=⟨cv hK,by rw[hK]; rfl,rfl,rfl⟩
theorem Jm:mZ C 566 456:=⟨by rw[hK]; rfl,by rw[hK]; rfl,by rw[hK]; rfl,by rw[hK]; rfl⟩
theorem vQ:df C (GV C.w.params hand) 198 "size" 117:=⟨fU hK,by rw[hK]; rfl,by rw[hK]; rfl,rfl,by rw[hK]; rfl⟩
theorem vP:df C (GV C.w.params hand) 198 "take" 122:=⟨fU hK,by rw[hK]; rfl,by rw[hK]; rfl,rfl,by rw[hK]; rfl⟩
theorem rm:df C (GV C.w.params hand) 198 "require" 129:=⟨fU hK,by rw[hK]; rfl,by rw[hK]; rfl,rfl,by rw[hK]; rfl⟩
theorem zc:df C (GV C.w.params hand) 198 "op" 155:=⟨fU hK,by rw[hK]; rfl,by rw[hK]; rfl,rfl,by rw[hK]; rfl⟩
theorem vR:df C (GV C.w.params hand) 198 "kids" 162:=⟨fU hK,by rw[hK]; rfl,by rw[hK]; rfl,rfl,by rw[hK]; rfl⟩
theorem jJ:df C (GV C.w.params hand) 236 "extended" 221:=⟨pu hK,by rw[hK]; rfl,by rw[hK]; rfl,rfl,by rw[hK]; rfl⟩
theorem nZ:df C (GV C.w.params hand) 236 "found_in" 228:=⟨pu hK,by rw[hK]; rfl,by rw[hK]; rfl,rfl,by rw[hK]; rfl⟩
theorem rf:df C (GV C.w.params hand) 236 "found" 233:=⟨pu hK,by rw[hK]; rfl,by rw[hK]; rfl,rfl,by rw[hK]; rfl⟩
theorem kM:df C (GV C.w.params hand) 301 "put" 286:=⟨rJ hK,by rw[hK]; rfl,by rw[hK]; rfl,rfl,by rw[hK]; rfl⟩
theorem rk:df C (GV C.w.params hand) 301 "holds" 298:=⟨rJ hK,by rw[hK]; rfl,by rw[hK]; rfl,rfl,by rw[hK]; rfl⟩
theorem kA:df C (GV C.w.params hand) 356 "is_full" 324:=⟨cV hK,by rw[hK]; rfl,by rw[hK]; rfl,rfl,by rw[hK]; rfl⟩
theorem kz:df C (GV C.w.params hand) 356 "matches" 331:=⟨cV hK,by rw[hK]; rfl,by rw[hK]; rfl,rfl,by rw[hK]; rfl⟩
theorem rj:df C (GV C.w.params hand) 356 "apply" 336:=⟨cV hK,by rw[hK]; rfl,by rw[hK]; rfl,rfl,by rw[hK]; rfl⟩
theorem jg:df C (GV C.w.params hand) 356 "apply_all" 343:=⟨cV hK,by rw[hK]; rfl,by rw[hK]; rfl,rfl,by rw[hK]; rfl⟩
theorem ny:df C (GV C.w.params hand) 356 "one_round" 348:=⟨cV hK,by rw[hK]; rfl,by rw[hK]; rfl,rfl,by rw[hK]; rfl⟩
theorem t4:df C (GV C.w.params hand) 356 "run" 353:=⟨cV hK,by rw[hK]; rfl,by rw[hK]; rfl,rfl,by rw[hK]; rfl⟩
theorem sI:df C (GV C.w.params hand) 438 "make" 381:=⟨gB hK,by rw[hK]; rfl,by rw[hK]; rfl,rfl,by rw[hK]; rfl⟩
theorem sH:df C (GV C.w.params hand) 438 "size" 388:=⟨gB hK,by rw[hK]; rfl,by rw[hK]; rfl,rfl,by rw[hK]; rfl⟩
theorem gY:df C (GV C.w.params hand) 438 "find" 395:=⟨gB hK,by rw[hK]; rfl,by rw[hK]; rfl,rfl,by rw[hK]; rfl⟩
theorem rh:df C (GV C.w.params hand) 438 "merge" 402:=⟨gB hK,by rw[hK]; rfl,by rw[hK]; rfl,rfl,by rw[hK]; rfl⟩
theorem pa:df C (GV C.w.params hand) 438 "members" 409:=⟨gB hK,by rw[hK]; rfl,by rw[hK]; rfl,rfl,by rw[hK]; rfl⟩
theorem pb:df C (GV C.w.params hand) 438 "classes" 414:=⟨gB hK,by rw[hK]; rfl,by rw[hK]; rfl,rfl,by rw[hK]; rfl⟩
theorem pc:df C (GV C.w.params hand) 566 "size" 463:=⟨cv hK,by rw[hK]; rfl,by rw[hK]; rfl,rfl,by rw[hK]; rfl⟩
theorem lM:df C (GV C.w.params hand) 566 "node" 468:=⟨cv hK,by rw[hK]; rfl,by rw[hK]; rfl,rfl,by rw[hK]; rfl⟩
theorem qH:df C (GV C.w.params hand) 566 "add" 473:=⟨cv hK,by rw[hK]; rfl,by rw[hK]; rfl,rfl,by rw[hK]; rfl⟩
theorem qG:df C (GV C.w.params hand) 566 "put" 478:=⟨cv hK,by rw[hK]; rfl,by rw[hK]; rfl,rfl,by rw[hK]; rfl⟩
theorem lX:df C (GV C.w.params hand) 566 "look_at" 485:=⟨cv hK,by rw[hK]; rfl,by rw[hK]; rfl,rfl,by rw[hK]; rfl⟩
theorem fb:df C (GV C.w.params hand) 566 "find" 492:=⟨cv hK,by rw[hK]; rfl,by rw[hK]; rfl,rfl,by rw[hK]; rfl⟩
theorem t5:df C (GV C.w.params hand) 566 "merge" 506:=⟨cv hK,by rw[hK]; rfl,by rw[hK]; rfl,rfl,by rw[hK]; rfl⟩
theorem pe:df C (GV C.w.params hand) 566 "join" 513:=⟨cv hK,by rw[hK]; rfl,by rw[hK]; rfl,rfl,by rw[hK]; rfl⟩
theorem gZ:df C (GV C.w.params hand) 566 "settle" 520:=⟨cv hK,by rw[hK]; rfl,by rw[hK]; rfl,rfl,by rw[hK]; rfl⟩
theorem lY:df C (GV C.w.params hand) 566 "classes" 534:=⟨cv hK,by rw[hK]; rfl,by rw[hK]; rfl,rfl,by rw[hK]; rfl⟩
theorem rl:df C (GV C.w.params hand) 566 "members" 541:=⟨cv hK,by rw[hK]; rfl,by rw[hK]; rfl,rfl,by rw[hK]; rfl⟩
theorem p9:df C (GV C.w.params hand) 566 "nodes_of" 546:=⟨cv hK,by rw[hK]; rfl,by rw[hK]; rfl,rfl,by rw[hK]; rfl⟩
theorem n0:df C (GV C.w.params hand) 566 "many_nodes" 551:=⟨cv hK,by rw[hK]; rfl,by rw[hK]; rfl,rfl,by rw[hK]; rfl⟩
theorem vO:df C (GV C.w.params hand) 566 "seek" 556:=⟨cv hK,by rw[hK]; rfl,by rw[hK]; rfl,rfl,by rw[hK]; rfl⟩
theorem cR{sc:Scope}(h:sc.names.lookup ("len":Str)=some .globalImplicit):fX C sc "len" (.builtin "len"):=⟨h,by rw[hK]; rfl,by rfl,by decide,rfl⟩
theorem fV{sc:Scope}(h:sc.names.lookup ("sorted":Str)=some .globalImplicit):fX C sc "sorted" (.builtin "sorted"):=⟨h,by rw[hK]; rfl,by rfl,by decide,rfl⟩
theorem qf{sc:Scope}(h:sc.names.lookup ("sum":Str)=some .globalImplicit):fX C sc "sum" (.builtin "sum"):=⟨h,by rw[hK]; rfl,by rfl,by decide,rfl⟩
theorem FM{sc:Scope}(h:sc.names.lookup ("max":Str)=some .globalImplicit):fX C sc "max" (.builtin "max"):=⟨h,by rw[hK]; rfl,by rfl,by decide,rfl⟩
theorem JQ{sc:Scope}(h:sc.names.lookup ("min":Str)=some .globalImplicit):fX C sc "min" (.builtin "min"):=⟨h,by rw[hK]; rfl,by rfl,by decide,rfl⟩
theorem gm{sc:Scope}(h:sc.names.lookup ("tuple":Str)=some .globalImplicit):fX C sc "tuple" (.type "tuple"):=⟨h,by rw[hK]; rfl,by rfl,by decide,rfl⟩
theorem Bm{sc:Scope}(h:sc.names.lookup ("list":Str)=some .globalImplicit):fX C sc "list" (.type "list"):=⟨h,by rw[hK]; rfl,by rfl,by decide,rfl⟩
theorem mW{sc:Scope}(h:sc.names.lookup ("range":Str)=some .globalImplicit):fX C sc "range" (.type "range"):=⟨h,by rw[hK]; rfl,by rfl,by decide,rfl⟩
theorem Bn{sc:Scope}(h:sc.names.lookup ("dict":Str)=some .globalImplicit):fX C sc "dict" (.type "dict"):=⟨h,by rw[hK]; rfl,by rfl,by decide,rfl⟩
theorem qg{sc:Scope}(h:sc.names.lookup ("set":Str)=some .globalImplicit):fX C sc "set" (.type "set"):=⟨h,by rw[hK]; rfl,by rfl,by decide,rfl⟩
theorem wf{sc:Scope}(h:sc.names.lookup ("enumerate":Str)=some .globalImplicit):fX C sc "enumerate" (.type "enumerate"):=⟨h,by rw[hK]; rfl,by rfl,by decide,rfl⟩
theorem Au{sc:Scope}(h:sc.names.lookup ("zip":Str)=some .globalImplicit):fX C sc "zip" (.type "zip"):=⟨h,by rw[hK]; rfl,by rfl,by decide,rfl⟩
end
theorem ch:wj .list "append" "list.append":=⟨PySem.F.slot_list_append,rfl⟩
theorem g0:wj .list "extend" "list.extend":=⟨PySem.F.slot_list_extend,rfl⟩
theorem ua:wj .list "count" "list.count":=⟨PySem.F.slot_list_count,rfl⟩
theorem xm:wj .list "pop" "list.pop":=⟨PySem.F.slot_list_pop,rfl⟩
theorem sK:wj .tup "index" "tuple.index":=⟨PySem.F.slot_tuple_index,rfl⟩
theorem eX:wj .dict "get" "dict.get":=⟨PySem.F.slot_dict_get,rfl⟩
theorem n5:wj .dict "setdefault" "dict.setdefault":=⟨PySem.F.slot_dict_setdefault,rfl⟩
theorem xn:wj .dict "pop" "dict.pop":=⟨PySem.F.slot_dict_pop,rfl⟩
@[reducible] noncomputable def FU:Nat:=5000
noncomputable def HF:List (Nat×Nat):=[(1,1),(3,2),(4,2),(5,2),(6,6),(8,8),(9,9)]
theorem Cw{P:Params}{hand:HV}:F2 (GV P hand) HF:=⟨λi j h=>by
 have:∀tb,∀p∈HF,Txt.slice (j3 tb p.1) none (some 1)=j3 tb p.2/\bm (j3 tb p.1).length 1000000=true:=by decide+kernel
 exact⟨(this hand.tb (i,j) h).1,N (this hand.tb (i,j) h).2⟩⟩
theorem fst_{P:Params}{hand:HV}:Bv (GV P hand) HF:=⟨λi j h=>by
 have:∀tb,∀p∈HF,(j3 tb p.1).cps[0]?.any (λc=>decide (j3 tb p.2=⟨#[c]⟩))=true:=by decide+kernel
 have h:=this hand.tb (i,j) h
 show ∃c,(j3 hand.tb i).cps[0]?=some c/\j3 hand.tb j=⟨#[c]⟩
 cases e:(j3 hand.tb i).cps[0]? with
 | none=>simp only[e] at h; cases h
 | some c=>simp only[e] at h; exact⟨c,rfl,of_decide_eq_true h⟩⟩
noncomputable def SGT:List (Nat×TV):=[(1,.cons (.str 1) .nil),(6,.cons (.str 6) .nil),(8,.cons (.str 8) .nil),(9,.cons (.str 9) .nil)]
theorem Hx{x:Str}(h4:x.cps.size=1):lP x=[V.str x]:=by
 obtain⟨⟨l⟩⟩:=x
 have h6:l.length=1:=h4
 obtain⟨c,rfl⟩:=AI.mp h6
 rfl
theorem sgt{P:Params}{hand:HV}:FV (GV P hand) SGT:=⟨λi r h=>by
 have H:∀tb,∀j∈[1,6,8,9],(j3 tb j).cps.size=1/\(j3 tb j).cps.all (·<128)=true:=by decide+kernel
 have K:∀j∈[1,6,8,9],[V.str (j3 hand.tb j)]=lP (j3 hand.tb j)/\(j3 hand.tb j).cps.all (·<128)=true:=λj hj=>⟨(Hx (H hand.tb j hj).1).symm,(H hand.tb j hj).2⟩
 cases h with
 | head=>exact K 1 (by decide)
 | tail _ h=>cases h with
  | head=>exact K 6 (by decide)
  | tail _ h=>cases h with
   | head=>exact K 8 (by decide)
   | tail _ h=>cases h with
    | head=>exact K 9 (by decide)
    | tail _ h=>cases h⟩
noncomputable def J9:List Nat:=[1,6,8,9]
theorem nsp{P:Params}{hand:HV}:∀j∈J9,Txt.isspace ((GV P hand).str j)=false:=by
 have:∀tb,∀j∈J9,Txt.isspace (j3 tb j)=false:=by decide+kernel
 exact this hand.tb
theorem nin{P:Params}{hand:HV}:∀j∈J9,Txt.contains "()[]{},:" ((GV P hand).str j)=false:=by
 have:∀tb,∀j∈J9,Txt.contains "()[]{},:" (j3 tb j)=false:=by decide+kernel
 exact this hand.tb
theorem bp{P:Params}{hand:HV}:cM (GV P hand):=J3 P hand
section
variable{C:Cx}{hand:HV}(hK:C.K=KF C.w.params)
include hK
noncomputable def qC:RF:=cT 1 [] [0] 0 (ag (cB (aO fZ (aa (bq 198 0 (ae 0)) aq))) aU)
theorem wR:MF C (GV C.w.params hand) 117 1 qC:=by
 refine j0 hK (cs:=[]) (ls:=[("self",0)]) (rest:=[]) rfl rfl (b1 λJ=>rfl) ?_
 exact(MS.cons (M1.ret (eB MV.len (cR hK rfl) bI.builtin (lC (fA (jO hK) (eL 0 rfl) λJ J=>rfl) ML.nil rfl) rfl)) MS.nil)
noncomputable def mF:RF:=cT 1 [] [0] 0 (ag (cB (bw 198 qC (bq 566 0 (ae 0)) aq)) aU)
theorem qw:MF C (GV C.w.params hand) 463 2 mF:=by
 refine j0 hK (cs:=[]) (ls:=[("self",0)]) (rest:=[]) rfl rfl (b1 λJ=>rfl) ?_
 exact(MS.cons (M1.ret (eM (wR hK) (vQ hK) (fA (pn hK) (eL 0 rfl) λJ J=>rfl) ML.nil rfl λJ=>rfl)) MS.nil)
noncomputable def iw:RF:=cT 1 [] [0] 0 (ag (cB (vF FL (bw 566 mF (bq 356 0 (ae 0)) aq) (dD .dict sD (bq 356 2 (ae 0)) (aa (rK (.str 13)) (aa (rK (.nat 10000)) aq))))) aU)
theorem lh:MF C (GV C.w.params hand) 324 3 iw:=by
 refine j0 hK (cs:=[]) (ls:=[("self",0)]) (rest:=[]) rfl rfl (b1 λJ=>rfl) ?_
 exact(MS.cons (M1.ret (ME.cmp oG rfl (eM (qw hK) (pc hK) (fA (lq hK) (eL 0 rfl) λJ J=>rfl) ML.nil rfl λJ=>rfl) (cn (t:=.dict) rfl (MV.get bp rfl) eX rfl (λJ=>rfl) (fA (mT hK) (eL 0 rfl) λJ J=>rfl) (lC (ME.str (j:=13) rfl) (lC ME.int ML.nil rfl) rfl)))) MS.nil)
noncomputable def gh:RF:=cT 2 [] [0,1] 0 (ag (pV (cg (tf dE) (bT (bq 438 0 (ae 0)) (ae 1)) (ae 1)) (ag (bK (bo 1) (bT (bq 438 0 (ae 0)) (ae 1))) aU) FU) (ag (cB (ae 1)) aU))
theorem iI:MF C (GV C.w.params hand) 395 1 gh:=by
 refine j0 hK (cs:=[]) (ls:=[("self",0),("a",1)]) (rest:=[]) rfl rfl (b2 λJ J=>rfl) ?_
 exact(MS.cons (M1.while FU (tC (nE bp) (bj bp rfl (fA (g9 hK) (eL 0 rfl) λJ J=>rfl) (eL 1 rfl)) (eL 1 rfl) rfl) (MS.cons (aS (gL 1 rfl) (bj bp rfl (fA (g9 hK) (eL 0 rfl) λJ J=>rfl) (eL 1 rfl)) rfl rfl) MS.nil)) (MS.cons (M1.ret (eL 1 rfl)) MS.nil))
noncomputable def eW:RF:=cT 2 [] [0,1] 0 (ag (cB (bw 438 gh (bq 566 1 (ae 0)) (aa (ae 1) aq))) aU)
theorem fK:MF C (GV C.w.params hand) 492 2 eW:=by
 refine j0 hK (cs:=[]) (ls:=[("self",0),("n",1)]) (rest:=[]) rfl rfl (b2 λJ J=>rfl) ?_
 exact(MS.cons (M1.ret (eM (iI hK) (gY hK) (fA (lp hK) (eL 0 rfl) λJ J=>rfl) (lC (eL 1 rfl) ML.nil rfl) rfl λJ=>rfl)) MS.nil)
noncomputable def mC:RF:=cT 3 [] [0,1,2] 2 (ag (bK (jh 2 (dQ (bo 3) (dQ (bo 4) nz))) (aO o7 (aa (cP (aa (bw 438 gh (ae 0) (aa (ae 1) aq)) (aa (bw 438 gh (ae 0) (aa (ae 2) aq)) aq))) aq))) (ag (mc (cg dE (ae 3) (ae 4)) (ag (cB (rK .none)) aU) aU) (ag (bK (rp (bq 438 0 (ae 0)) (ae 4)) (ae 3)) (ag (eD (dD .list lK (bT (bq 438 1 (ae 0)) (ae 3)) (aa (bT (bq 438 1 (ae 0)) (ae 4)) aq))) (ag (eD (dD .list fS (bq 438 2 (ae 0)) (aa (dY (aa (ae 3) (aa (ae 4) aq))) aq))) (ag (cB (dY (aa (ae 3) (aa (ae 4) aq)))) aU))))))
theorem r8:MF C (GV C.w.params hand) 402 2 mC:=by
 refine j0 hK (cs:=[]) (ls:=[("self",0),("a",1),("b",2)]) (rest:=[("kept",false),("gone",false)]) rfl rfl (b3 λJ J J=>rfl) ?_
 exact(MS.cons (aS (gz rfl rfl (jT.cons rfl (gL 3 rfl) (jT.cons rfl (gL 4 rfl) jT.nil))) (eB (m9 bp rfl) (fV hK rfl) bI.builtin (lC (ME.list (lC (eM (iI hK) (gY hK) (eL 0 rfl) (lC (eL 1 rfl) ML.nil rfl) rfl λJ=>rfl) (lC (eM (iI hK) (gY hK) (eL 0 rfl) (lC (eL 2 rfl) ML.nil rfl) rfl λJ=>rfl) ML.nil rfl) rfl) rfl) ML.nil rfl) rfl) rfl rfl) (MS.cons (M1.ifS (tC (im bp) (eL 3 rfl) (eL 4 rfl) rfl) (MS.cons (M1.ret ME.none) MS.nil) MS.nil) (MS.cons (aS (MG.sub bp rfl (fA (g9 hK) (eL 0 rfl) λJ J=>rfl) (eL 4 rfl)) (eL 3 rfl) rfl rfl) (MS.cons (M1.expr rfl (cn (t:=.list) rfl MV.extend g0 rfl (λJ=>rfl) (bj bp rfl (fA (mS hK) (eL 0 rfl) λJ J=>rfl) (eL 3 rfl)) (lC (bj bp rfl (fA (mS hK) (eL 0 rfl) λJ J=>rfl) (eL 4 rfl)) ML.nil rfl))) (MS.cons (M1.expr rfl (cn (t:=.list) rfl MV.append ch rfl (λJ=>rfl) (fA (Fr hK) (eL 0 rfl) λJ J=>rfl) (lC (ME.tup (lC (eL 3 rfl) (lC (eL 4 rfl) ML.nil rfl) rfl) rfl) ML.nil rfl))) (MS.cons (M1.ret (ME.tup (lC (eL 3 rfl) (lC (eL 4 rfl) ML.nil rfl) rfl) rfl)) MS.nil))))))
noncomputable def mI:RF:=cT 4 [] [0,1,2,3] 3 (ag (eD (dD .list fS (bq 566 2 (ae 0)) (aa (dY (aa (ae 1) (aa (ae 2) (aa (ae 3) aq)))) aq))) (ag (bK (bo 4) (bw 438 mC (bq 566 1 (ae 0)) (aa (ae 1) (aa (ae 2) aq)))) (ag (mc (λenv s k=>(ae 4) env s λv s=>sF v λb=>k b s) (ag (cB (rK (.bool false))) aU) aU) (ag (bK (jh 2 (dQ (bo 5) (dQ (bo 6) nz))) (ae 4)) (ag (eD (dD .list fS (bq 566 3 (ae 0)) (aa (fp Aw (aO fZ (aa (bq 566 2 (ae 0)) aq)) (rK (.nat 1))) aq))) (ag (eD (dD .list lK (bq 566 6 (ae 0)) (aa (bT (bq 566 5 (ae 0)) (ae 6)) aq))) (ag (bK (rp (bq 566 5 (ae 0)) (ae 5)) (fp il (bT (bq 566 5 (ae 0)) (ae 5)) (dD .dict Il (bq 566 5 (ae 0)) (aa (ae 6) aq)))) (ag (cB (rK (.bool true))) aU))))))))
theorem qx:MF C (GV C.w.params hand) 513 3 mI:=by
 refine j0 hK (cs:=[]) (ls:=[("self",0),("a",1),("b",2),("reason",3)]) (rest:=[("merged",false),("kept",false),("gone",false)]) rfl rfl (b4 λJ J J J=>rfl) ?_
 exact(MS.cons (M1.expr rfl (cn (t:=.list) rfl MV.append ch rfl (λJ=>rfl) (fA (sV hK) (eL 0 rfl) λJ J=>rfl) (lC (ME.tup (lC (eL 1 rfl) (lC (eL 2 rfl) (lC (eL 3 rfl) ML.nil rfl) rfl) rfl) rfl) ML.nil rfl))) (MS.cons (aS (gL 4 rfl) (eM (r8 hK) (rh hK) (fA (lp hK) (eL 0 rfl) λJ J=>rfl) (lC (eL 1 rfl) (lC (eL 2 rfl) ML.nil rfl) rfl) rfl λJ=>rfl) rfl rfl) (MS.cons (M1.ifS (MT.isNone (eL 4 rfl)) (MS.cons (M1.ret ME.bool) MS.nil) MS.nil) (MS.cons (aS (gz rfl rfl (jT.cons rfl (gL 5 rfl) (jT.cons rfl (gL 6 rfl) jT.nil))) (eL 4 rfl) rfl rfl) (MS.cons (M1.expr rfl (cn (t:=.list) rfl MV.append ch rfl (λJ=>rfl) (fA (xI hK) (eL 0 rfl) λJ J=>rfl) (lC (ME.bin MB.sub (eB MV.len (cR hK rfl) bI.builtin (lC (fA (sV hK) (eL 0 rfl) λJ J=>rfl) ML.nil rfl) rfl) ME.int) ML.nil rfl))) (MS.cons (M1.expr rfl (cn (t:=.list) rfl MV.extend g0 rfl (λJ=>rfl) (fA (sU hK) (eL 0 rfl) λJ J=>rfl) (lC (bj bp rfl (fA (ln hK) (eL 0 rfl) λJ J=>rfl) (eL 6 rfl)) ML.nil rfl))) (MS.cons (aS (MG.sub bp rfl (fA (ln hK) (eL 0 rfl) λJ J=>rfl) (eL 5 rfl)) (ME.bin MB.add (bj bp rfl (fA (ln hK) (eL 0 rfl) λJ J=>rfl) (eL 5 rfl)) (cn (t:=.dict) rfl (Gu rfl) xn rfl (λJ=>rfl) (fA (ln hK) (eL 0 rfl) λJ J=>rfl) (lC (eL 6 rfl) ML.nil rfl))) rfl rfl) (MS.cons (M1.ret ME.bool) MS.nil))))))))
noncomputable def qD:RF:=cT 2 [] [0,1] 0 (ag (cB (io (bT (bq 198 0 (ae 0)) (ae 1)) (rK (.nat 1)))) aU)
theorem wS:MF C (GV C.w.params hand) 162 1 qD:=by
 refine j0 hK (cs:=[]) (ls:=[("self",0),("n",1)]) (rest:=[]) rfl rfl (b2 λJ J=>rfl) ?_
 exact(MS.cons (M1.ret (gW (bj bp rfl (fA (jO hK) (eL 0 rfl) λJ J=>rfl) (eL 1 rfl)) ME.int)) MS.nil)
noncomputable def uB:RF:=cT 2 [] [0,1] 0 (ag (cB (bT (bT (bq 198 0 (ae 0)) (ae 1)) (rK (.nat 0)))) aU)
theorem B2:MF C (GV C.w.params hand) 155 1 uB:=by
 refine j0 hK (cs:=[]) (ls:=[("self",0),("n",1)]) (rest:=[]) rfl rfl (b2 λJ J=>rfl) ?_
 exact(MS.cons (M1.ret (bj bp rfl (bj bp rfl (fA (jO hK) (eL 0 rfl) λJ J=>rfl) (eL 1 rfl)) ME.int)) MS.nil)
noncomputable def kw:RF:=cT 2 [some 0] [1] 0 (ag (cB (fp il (dY (aa (bw 198 uB (bq 566 0 (az 0)) (aa (ae 1) aq)) aq)) (aO i9 (aa (dS (c7 (bw 198 qD (bq 566 0 (az 0)) (aa (ae 1) aq))) [0] 1 (bo 1) (tK true) (cA (bw 566 eW (az 0) (aa (ae 1) aq))) FU) aq)))) aU)
theorem mu:MF C (GV C.w.params hand) 468 3 kw:=by
 refine j0 hK (cs:=[("self",some 0)]) (ls:=[("n",1)]) (rest:=[]) rfl rfl (b2 λJ J=>rfl) ?_
 exact(MS.cons (M1.ret (ME.bin MB.add (ME.tup (lC (eM (B2 hK) (zc hK) (fA (pn hK) (eC 0 rfl) λJ J=>rfl) (lC (eL 1 rfl) ML.nil rfl) rfl λJ=>rfl) ML.nil rfl) rfl) (eB MV.tuple (gm hK rfl) bI.type (lC (ME.comp1 (fs:=[("self",0)]) (rest:=[("kid",false)]) FU (.of rfl rfl) rfl rfl (MI.any (eM (wS hK) (vR hK) (fA (pn hK) (eC 0 rfl) λJ J=>rfl) (lC (eL 1 rfl) ML.nil rfl) rfl λJ=>rfl)) (gL 1 rfl) iP.nil (eM (fK hK) (fb hK) (eC 0 rfl) (lC (eL 1 rfl) ML.nil rfl) rfl λJ=>rfl)) ML.nil rfl) rfl))) MS.nil)
noncomputable def jD:RF:=cT 2 [] [0,1] 1 (ag (bK (bo 2) (dD .dict Ik (bq 566 4 (ae 0)) (aa (bw 566 kw (ae 0) (aa (ae 1) aq)) (aa (ae 1) aq)))) (ag (mc (cg (tf dE) (bw 566 eW (ae 0) (aa (ae 2) aq)) (bw 566 eW (ae 0) (aa (ae 1) aq))) (ag (eD (bw 566 mI (ae 0) (aa (ae 2) (aa (ae 1) (aa (dY (aa (rK (.str 10)) aq)) aq))))) aU) aU) aU))
theorem mw:MF C (GV C.w.params hand) 485 4 jD:=by
 refine j0 hK (cs:=[]) (ls:=[("self",0),("n",1)]) (rest:=[("other",false)]) rfl rfl (b2 λJ J=>rfl) ?_
 exact(MS.cons (aS (gL 2 rfl) (cn (t:=.dict) rfl (tV bp rfl) n5 rfl (λJ=>rfl) (fA (xH hK) (eL 0 rfl) λJ J=>rfl) (lC (eM (mu hK) (lM hK) (eL 0 rfl) (lC (eL 1 rfl) ML.nil rfl) rfl λJ=>rfl) (lC (eL 1 rfl) ML.nil rfl) rfl)) rfl rfl) (MS.cons (M1.ifS (tC (nE bp) (eM (fK hK) (fb hK) (eL 0 rfl) (lC (eL 2 rfl) ML.nil rfl) rfl λJ=>rfl) (eM (fK hK) (fb hK) (eL 0 rfl) (lC (eL 1 rfl) ML.nil rfl) rfl λJ=>rfl) rfl) (MS.cons (M1.expr rfl (eM (qx hK) (pe hK) (eL 0 rfl) (lC (eL 2 rfl) (lC (eL 1 rfl) (lC (ME.tup (lC (ME.str (j:=10) rfl) ML.nil rfl) rfl) ML.nil rfl) rfl) rfl) rfl λJ=>rfl)) MS.nil) MS.nil) MS.nil))
noncomputable def gk:RF:=cT 1 [] [0] 0 (ag (pV (cg FL (aO fZ (aa (bq 566 6 (ae 0)) aq)) (rK (.nat 0))) (ag (eD (bw 566 jD (ae 0) (aa (dD .list Kv (bq 566 6 (ae 0)) aq) aq))) aU) FU) aU)
theorem iJ:MF C (GV C.w.params hand) 520 5 gk:=by
 refine j0 hK (cs:=[]) (ls:=[("self",0)]) (rest:=[]) rfl rfl (b1 λJ=>rfl) ?_
 exact(MS.cons (M1.while FU (tC oG (eB MV.len (cR hK rfl) bI.builtin (lC (fA (sU hK) (eL 0 rfl) λJ J=>rfl) ML.nil rfl) rfl) ME.int rfl) (MS.cons (M1.expr rfl (eM (mw hK) (lX hK) (eL 0 rfl) (lC (cn (t:=.list) rfl MV.pop xm rfl (λJ=>rfl) (fA (sU hK) (eL 0 rfl) λJ J=>rfl) ML.nil) ML.nil rfl) rfl λJ=>rfl)) MS.nil)) MS.nil)
noncomputable def o0:RF:=cT 4 [] [0,1,2,3] 0 (ag (cB (bw 566 mI (ae 0) (aa (ae 1) (aa (ae 2) (aa (ae 3) aq))))) aU)
theorem vq:MF C (GV C.w.params hand) 506 4 o0:=by
 refine j0 hK (cs:=[]) (ls:=[("self",0),("a",1),("b",2),("reason",3)]) (rest:=[]) rfl rfl (b4 λJ J J J=>rfl) ?_
 exact(MS.cons (M1.ret (eM (qx hK) (pe hK) (eL 0 rfl) (lC (eL 1 rfl) (lC (eL 2 rfl) (lC (eL 3 rfl) ML.nil rfl) rfl) rfl) rfl λJ=>rfl)) MS.nil)
noncomputable def mE:RF:=λJ J J=>false
theorem sb:MF C (GV C.w.params hand) 298 0 mE:=MF.any
noncomputable def A0:RF:=cT 1 [] [0] 0 (ag (cB (Ja (vF (tf dE) (ae 0) (rK (.str 0))) (vF dE (dS (KO SGT (ae 0)) [] 1 (bo 0) (I1 (mz (Ig J9 (ae 0))) (I1 (mz (Ih J9 (ae 0))) (tK false))) (cA (ae 0)) FU) (cP aq)))) aU)
theorem GB:MF C (GV C.w.params hand) 79 1 A0:=by
 refine j0 hK (cs:=[]) (ls:=[("text",0)]) (rest:=[]) rfl rfl (b1 λJ=>rfl) ?_
 exact(MS.cons (M1.ret (ME.and2 (ME.cmp (nE bp) rfl (eL 0 rfl) (ME.str (j:=0) rfl)) (ME.cmp (im bp) rfl (ME.comp1 (fs:=[]) (rest:=[("sign",false)]) FU (.of rfl rfl) rfl rfl (MI.str sgt (eL 0 rfl)) (gL 0 rfl) (gV (MT.boolOp (MA.consOr (MT.val rfl (yK nsp (λJ=>rfl) (eL 0 rfl))) (MA.consOr (Gv nin (eL 0 rfl)) MA.nilOr)))) (eL 0 rfl)) (ME.list ML.nil rfl)))) MS.nil)
noncomputable def mJ:RF:=cT 2 [] [0,1] 0 (ag (mc (I1 (B4 (mz (aO A0 (aa (ae 1) aq)))) (I1 (cg dE (Eb HF (ae 1)) (rK (.str 2))) (tK false))) (ag (λJ J J J=>false) aU) aU) aU)
theorem sf:MF C (GV C.w.params hand) 129 2 mJ:=by
 refine j0 hK (cs:=[]) (ls:=[("self",0),("op",1)]) (rest:=[]) rfl rfl (b2 λJ J=>rfl) ?_
 exact(MS.cons (M1.ifS (MT.boolOp (MA.consOr (MT.not (MT.val rfl (eF hK (GB hK) (lC (eL 1 rfl) ML.nil rfl) rfl rfl rfl))) (MA.consOr (tC (im bp) (ME.first fst_ (eL 1 rfl)) (ME.str (j:=2) rfl) rfl) MA.nilOr))) (MS.cons M1.any MS.nil) MS.nil) MS.nil)
noncomputable def qB:RF:=cT 3 [some 0] [1,2] 2 (ag (bK (bo 3) (fp il (dY (aa (ae 1) aq)) (aO i9 (aa (ae 2) aq)))) (ag (mc (cg oe (ae 3) (bq 198 1 (az 0))) (ag (cB (bT (bq 198 1 (az 0)) (ae 3))) aU) aU) (ag (eD (bw 198 mJ (az 0) (aa (ae 1) aq))) (ag (mA (c7 (io (ae 3) (rK (.nat 1)))) (bo 4) (ag (mc (B4 (DY cLe JP (rK (.nat 0)) (ae 4) (aO fZ (aa (bq 198 0 (az 0)) aq)))) (ag (λJ J J J=>false) aU) aU) aU) FU) (ag (bK (rp (bq 198 1 (az 0)) (ae 3)) (aO fZ (aa (bq 198 0 (az 0)) aq))) (ag (eD (dD .list fS (bq 198 0 (az 0)) (aa (ae 3) aq))) (ag (eD (dD .list fS (bq 198 2 (az 0)) (aa (fp il (rK (.nat 1)) (aO vN (aa (dS (c7 (io (ae 3) (rK (.nat 1)))) [0] 1 (bo 1) (tK true) (cA (bT (bq 198 2 (az 0)) (ae 1))) FU) aq))) aq))) (ag (eD (dD .list fS (bq 198 3 (az 0)) (aa (fp il (rK (.nat 1)) (aO Je (aa (fp il (dS (c7 (io (ae 3) (rK (.nat 1)))) [0] 1 (bo 1) (tK true) (cA (bT (bq 198 3 (az 0)) (ae 1))) FU) (cP (aa (rK (.nat 0)) aq))) aq))) aq))) (ag (cB (fp Aw (aO fZ (aa (bq 198 0 (az 0)) aq)) (rK (.nat 1)))) aU)))))))))
theorem wQ:MF C (GV C.w.params hand) 122 3 qB:=by
 refine j0 hK (cs:=[("self",some 0)]) (ls:=[("op",1),("kids",2)]) (rest:=[("node",false),("kid",false)]) rfl rfl (b3 λJ J J=>rfl) ?_
 exact(MS.cons (aS (gL 3 rfl) (ME.bin MB.add (ME.tup (lC (eL 1 rfl) ML.nil rfl) rfl) (eB MV.tuple (gm hK rfl) bI.type (lC (eL 2 rfl) ML.nil rfl) rfl)) rfl rfl) (MS.cons (M1.ifS (tC (AQ bp rfl) (eL 3 rfl) (fA (s4 hK) (eC 0 rfl) λJ J=>rfl) rfl) (MS.cons (M1.ret (bj bp rfl (fA (s4 hK) (eC 0 rfl) λJ J=>rfl) (eL 3 rfl))) MS.nil) MS.nil) (MS.cons (M1.expr rfl (eM (sf hK) (rm hK) (eC 0 rfl) (lC (eL 1 rfl) ML.nil rfl) rfl λJ=>rfl)) (MS.cons (M1.for FU rfl (MI.any (gW (eL 3 rfl) ME.int)) (gL 4 rfl) (MS.cons (M1.ifS (MT.not (DK MC.le MC.lt rfl ME.int (eL 4 rfl) (eB MV.len (cR hK rfl) bI.builtin (lC (fA (jO hK) (eC 0 rfl) λJ J=>rfl) ML.nil rfl) rfl))) (MS.cons M1.any MS.nil) MS.nil) MS.nil)) (MS.cons (aS (MG.sub bp rfl (fA (s4 hK) (eC 0 rfl) λJ J=>rfl) (eL 3 rfl)) (eB MV.len (cR hK rfl) bI.builtin (lC (fA (jO hK) (eC 0 rfl) λJ J=>rfl) ML.nil rfl) rfl) rfl rfl) (MS.cons (M1.expr rfl (cn (t:=.list) rfl MV.append ch rfl (λJ=>rfl) (fA (jO hK) (eC 0 rfl) λJ J=>rfl) (lC (eL 3 rfl) ML.nil rfl))) (MS.cons (M1.expr rfl (cn (t:=.list) rfl MV.append ch rfl (λJ=>rfl) (fA (xM hK) (eC 0 rfl) λJ J=>rfl) (lC (ME.bin MB.add ME.int (eB MV.sum (qf hK rfl) bI.builtin (lC (ME.comp1 (fs:=[("self",0)]) (rest:=[("kid",false)]) FU (.of rfl rfl) rfl rfl (MI.any (gW (eL 3 rfl) ME.int)) (gL 1 rfl) iP.nil (bj bp rfl (fA (xM hK) (eC 0 rfl) λJ J=>rfl) (eL 1 rfl))) ML.nil rfl) rfl)) ML.nil rfl))) (MS.cons (M1.expr rfl (cn (t:=.list) rfl MV.append ch rfl (λJ=>rfl) (fA (xL hK) (eC 0 rfl) λJ J=>rfl) (lC (ME.bin MB.add ME.int (eB DI (FM hK rfl) bI.builtin (lC (ME.bin MB.add (ME.comp1 (fs:=[("self",0)]) (rest:=[("kid",false)]) FU (.of rfl rfl) rfl rfl (MI.any (gW (eL 3 rfl) ME.int)) (gL 1 rfl) iP.nil (bj bp rfl (fA (xL hK) (eC 0 rfl) λJ J=>rfl) (eL 1 rfl))) (ME.list (lC ME.int ML.nil rfl) rfl)) ML.nil rfl) rfl)) ML.nil rfl))) (MS.cons (M1.ret (ME.bin MB.sub (eB MV.len (cR hK rfl) bI.builtin (lC (fA (jO hK) (eC 0 rfl) λJ J=>rfl) ML.nil rfl) rfl) ME.int)) MS.nil)))))))))
noncomputable def nG:RF:=cT 1 [] [0] 0 (ag (eD (dD .list fS (bq 438 0 (ae 0)) (aa (aO fZ (aa (bq 438 0 (ae 0)) aq)) aq))) (ag (eD (dD .list fS (bq 438 1 (ae 0)) (aa (cP (aa (aO fZ (aa (bq 438 1 (ae 0)) aq)) aq)) aq))) (ag (cB (fp Aw (aO fZ (aa (bq 438 0 (ae 0)) aq)) (rK (.nat 1)))) aU)))
theorem tX:MF C (GV C.w.params hand) 381 1 nG:=by
 refine j0 hK (cs:=[]) (ls:=[("self",0)]) (rest:=[]) rfl rfl (b1 λJ=>rfl) ?_
 exact(MS.cons (M1.expr rfl (cn (t:=.list) rfl MV.append ch rfl (λJ=>rfl) (fA (g9 hK) (eL 0 rfl) λJ J=>rfl) (lC (eB MV.len (cR hK rfl) bI.builtin (lC (fA (g9 hK) (eL 0 rfl) λJ J=>rfl) ML.nil rfl) rfl) ML.nil rfl))) (MS.cons (M1.expr rfl (cn (t:=.list) rfl MV.append ch rfl (λJ=>rfl) (fA (mS hK) (eL 0 rfl) λJ J=>rfl) (lC (ME.list (lC (eB MV.len (cR hK rfl) bI.builtin (lC (fA (mS hK) (eL 0 rfl) λJ J=>rfl) ML.nil rfl) rfl) ML.nil rfl) rfl) ML.nil rfl))) (MS.cons (M1.ret (ME.bin MB.sub (eB MV.len (cR hK rfl) bI.builtin (lC (fA (g9 hK) (eL 0 rfl) λJ J=>rfl) ML.nil rfl) rfl) ME.int)) MS.nil)))
noncomputable def nF:RF:=cT 1 [] [0] 0 (ag (cB (aO fZ (aa (bq 438 0 (ae 0)) aq))) aU)
theorem tW:MF C (GV C.w.params hand) 388 1 nF:=by
 refine j0 hK (cs:=[]) (ls:=[("self",0)]) (rest:=[]) rfl rfl (b1 λJ=>rfl) ?_
 exact(MS.cons (M1.ret (eB MV.len (cR hK rfl) bI.builtin (lC (fA (g9 hK) (eL 0 rfl) λJ J=>rfl) ML.nil rfl) rfl)) MS.nil)
noncomputable def jF:RF:=cT 3 [some 0] [1,2] 2 (ag (bK (bo 3) (bw 198 qB (bq 566 0 (az 0)) (aa (ae 1) (aa (ae 2) aq)))) (ag (mc (cg JP (ae 3) (bw 438 nF (bq 566 1 (az 0)) aq)) (ag (cB (ae 3)) aU) aU) (ag (eD (bw 438 nG (bq 566 1 (az 0)) aq)) (ag (bK (rp (bq 566 5 (az 0)) (ae 3)) (cP aq)) (ag (mA (c7 (mK (dS (c7 (ae 2)) [0] 1 (bo 1) (tK true) (cA (bw 566 eW (az 0) (aa (ae 1) aq))) FU))) (bo 4) (ag (eD (dD .list fS (bT (bq 566 5 (az 0)) (ae 4)) (aa (ae 3) aq))) aU) FU) (ag (eD (bw 566 jD (az 0) (aa (ae 3) aq))) (ag (cB (ae 3)) aU)))))))
theorem se:MF C (GV C.w.params hand) 473 5 jF:=by
 refine j0 hK (cs:=[("self",some 0)]) (ls:=[("op",1),("numbers",2)]) (rest:=[("n",false),("c",false)]) rfl rfl (b3 λJ J J=>rfl) ?_
 exact(MS.cons (aS (gL 3 rfl) (eM (wQ hK) (vP hK) (fA (pn hK) (eC 0 rfl) λJ J=>rfl) (lC (eL 1 rfl) (lC (eL 2 rfl) ML.nil rfl) rfl) rfl λJ=>rfl) rfl rfl) (MS.cons (M1.ifS (tC MC.lt (eL 3 rfl) (eM (tW hK) (sH hK) (fA (lp hK) (eC 0 rfl) λJ J=>rfl) ML.nil rfl λJ=>rfl) rfl) (MS.cons (M1.ret (eL 3 rfl)) MS.nil) MS.nil) (MS.cons (M1.expr rfl (eM (tX hK) (sI hK) (fA (lp hK) (eC 0 rfl) λJ J=>rfl) ML.nil rfl λJ=>rfl)) (MS.cons (aS (MG.sub bp rfl (fA (ln hK) (eC 0 rfl) λJ J=>rfl) (eL 3 rfl)) (ME.list ML.nil rfl) rfl rfl) (MS.cons (M1.for FU rfl (MI.any (lF bp (fV hK rfl) (qg hK rfl) rfl (ME.comp1 (fs:=[("self",0)]) (rest:=[("kid",false)]) FU (.of rfl rfl) rfl rfl (MI.any (eL 2 rfl)) (gL 1 rfl) iP.nil (eM (fK hK) (fb hK) (eC 0 rfl) (lC (eL 1 rfl) ML.nil rfl) rfl λJ=>rfl)))) (gL 4 rfl) (MS.cons (M1.expr rfl (cn (t:=.list) rfl MV.append ch rfl (λJ=>rfl) (bj bp rfl (fA (ln hK) (eC 0 rfl) λJ J=>rfl) (eL 4 rfl)) (lC (eL 3 rfl) ML.nil rfl))) MS.nil)) (MS.cons (M1.expr rfl (eM (mw hK) (lX hK) (eC 0 rfl) (lC (eL 3 rfl) ML.nil rfl) rfl λJ=>rfl)) (MS.cons (M1.ret (eL 3 rfl)) MS.nil)))))))
noncomputable def eH:RF:=cT 1 [] [0] 0 (ag (cB (Ja (vF dE (aO fZ (aa (ae 0) aq)) (rK (.nat 1))) (vF dE (xb HF (bT (ae 0) (rK (.nat 0))) (rK (.nat 1))) (rK (.str 2))))) aU)
theorem iH:MF C (GV C.w.params hand) 86 1 eH:=by
 refine j0 hK (cs:=[]) (ls:=[("t",0)]) (rest:=[]) rfl rfl (b1 λJ=>rfl) ?_
 exact(MS.cons (M1.ret (ME.and2 (ME.cmp (im bp) rfl (eB MV.len (cR hK rfl) bI.builtin (lC (eL 0 rfl) ML.nil rfl) rfl) ME.int) (ME.cmp (im bp) rfl (rz Cw (bj bp rfl (eL 0 rfl) ME.int) ME.int) (ME.str (j:=2) rfl)))) MS.nil)
noncomputable def lJ(n:Nat):RF:=Nat.rec (motive:=λJ=>RF) (λJ J J=>false) (λJ ih=>cT 3 [some 0,some 2] [1] 0 (ag (mc (mz (aO eH (aa (ae 2) aq))) (ag (cB (bT (az 0) (bT (ae 2) (rK (.nat 0))))) aU) aU) (ag (cB (bw 566 jF (bq 301 0 (az 1)) (aa (bT (ae 2) (rK (.nat 0))) (aa (dS (c7 (io (ae 2) (rK (.nat 1)))) [1,0] 1 (bo 2) (tK true) (cA (bw 301 ih (az 0) (aa (ae 2) (aa (az 1) aq)))) FU) aq)))) aU))) n
theorem oN{n:Nat}{ih:RF}(hi:MF C (GV C.w.params hand) 286 (6+n) ih):MF C (GV C.w.params hand) 286 (6+n+1) (cT 3 [some 0,some 2] [1] 0 (ag (mc (mz (aO eH (aa (ae 2) aq))) (ag (cB (bT (az 0) (bT (ae 2) (rK (.nat 0))))) aU) aU) (ag (cB (bw 566 jF (bq 301 0 (az 1)) (aa (bT (ae 2) (rK (.nat 0))) (aa (dS (c7 (io (ae 2) (rK (.nat 1)))) [1,0] 1 (bo 2) (tK true) (cA (bw 301 ih (az 0) (aa (ae 2) (aa (az 1) aq)))) FU) aq)))) aU))):=by
 refine j0 hK (cs:=[("self",some 0),("table",some 2)]) (ls:=[("pattern",1)]) (rest:=[]) rfl rfl (b3 λJ J J=>rfl) ?_
 exact(MS.cons (M1.ifS (MT.val rfl (ME.call (iH hK) (by first | exact N rfl | exact uz rfl | exact ad _) rfl (by rw[hK]; rfl) rfl (by rw[hK]; rfl) rfl (lC (eL 2 rfl) ML.nil rfl))) (MS.cons (M1.ret (bj bp rfl (eC 0 rfl) (bj bp rfl (eL 2 rfl) ME.int))) MS.nil) MS.nil) (MS.cons (M1.ret (ME.meth (se hK) (by first | exact N rfl | exact uz rfl | exact ad _) (qH hK) rfl (λJ=>rfl) (fA (Ft hK) (eC 1 rfl) λJ J=>rfl) (lC (bj bp rfl (eL 2 rfl) ME.int) (lC (ME.comp1 (fs:=[("self",1),("table",0)]) (rest:=[("part",false)]) FU (.of rfl rfl) rfl rfl (MI.any (gW (eL 2 rfl) ME.int)) (gL 2 rfl) iP.nil (ME.meth hi (by exact au (N rfl) _:_+0<=_+0) (kM hK) rfl (λJ=>rfl) (eC 0 rfl) (lC (eL 2 rfl) (lC (eC 1 rfl) ML.nil rfl) rfl))) ML.nil rfl) rfl))) MS.nil))
theorem oO(n:Nat):MF C (GV C.w.params hand) 286 (6+n) (lJ n):=by
 induction n with
 | zero=>exact MF.any
 | succ n ih=>exact oN hK ih
noncomputable def mD:RF:=cT 3 [some 0,none] [1,2] 2 (ag (bK (g6 0) (aO A2 (aa (ae 3) aq))) (ag (mc (cg (tf dE) (bq 263 3 (ae 2)) (dY aq)) (ag (eD (bw 566 gk (bq 356 0 (az 1)) aq)) aU) aU) (ag (mc (cg (tf dE) (dS (c7 (bq 263 3 (ae 2))) [1,0] 1 (bo 2) (B4 (mz (bw 301 mE (bq 356 4 (az 0)) (aa (ae 2) (aa (az 1) aq))))) (cA (ae 2)) FU) (cP aq)) (ag (cB (rK (.bool false))) aU) aU) (ag (AW [5,4] (dY (aa (bw 301 (lJ 6) (bq 356 4 (az 1)) (aa (bq 263 1 (ae 2)) (aa (az 0) aq))) (aa (bw 301 (lJ 6) (bq 356 4 (az 1)) (aa (bq 263 2 (ae 2)) (aa (az 0) aq))) aq)))) (ag (cB (bw 566 o0 (bq 356 0 (az 1)) (aa (ae 4) (aa (ae 5) (aa (dY (aa (rK (.str 17)) (aa (bq 263 0 (ae 2)) (aa (aO i9 (aa (ae 3) aq)) aq)))) aq))))) aU)))))
theorem r9:MF C (GV C.w.params hand) 336 13 mD:=by
 refine j0 hK (cs:=[("self",some 0),("table",none)]) (ls:=[("rule",1),("subst",2)]) (rest:=[("left",false),("right",false)]) rfl rfl (b3 λJ J J=>rfl) ?_
 exact(MS.cons (aS (gC 0 rfl) (eB (MV.dict bp rfl) (Bn hK rfl) bI.type (lC (eL 3 rfl) ML.nil rfl) rfl) rfl rfl) (MS.cons (M1.ifS (tC (nE bp) (fA (xJ hK) (eL 2 rfl) λJ J=>rfl) (ME.tup ML.nil rfl) rfl) (MS.cons (M1.expr rfl (eM (iJ hK) (gZ hK) (fA (lq hK) (eC 1 rfl) λJ J=>rfl) ML.nil rfl λJ=>rfl)) MS.nil) MS.nil) (MS.cons (M1.ifS (tC (nE bp) (ME.comp1 (fs:=[("self",1),("table",0)]) (rest:=[("need",false)]) FU (.of rfl rfl) rfl rfl (MI.any (fA (xJ hK) (eL 2 rfl) λJ J=>rfl)) (gL 2 rfl) (gV (MT.not (MT.val rfl (eM (sb hK) (rk hK) (fA (sY hK) (eC 0 rfl) λJ J=>rfl) (lC (eL 2 rfl) (lC (eC 1 rfl) ML.nil rfl) rfl) rfl λJ=>rfl)))) (eL 2 rfl)) (ME.list ML.nil rfl) rfl) (MS.cons (M1.ret ME.bool) MS.nil) MS.nil) (MS.cons (M1.swap (xs:=[("right",5),("left",4)]) rfl rfl rfl (ME.tup (lC (eM (oO hK 6) (kM hK) (fA (sY hK) (eC 1 rfl) λJ J=>rfl) (lC (fA (xK hK) (eL 2 rfl) λJ J=>rfl) (lC (eC 0 rfl) ML.nil rfl) rfl) rfl λJ=>rfl) (lC (eM (oO hK 6) (kM hK) (fA (sY hK) (eC 1 rfl) λJ J=>rfl) (lC (fA (Fu hK) (eL 2 rfl) λJ J=>rfl) (lC (eC 0 rfl) ML.nil rfl) rfl) rfl λJ=>rfl) ML.nil rfl) rfl) rfl)) (MS.cons (M1.ret (eM (vq hK) (t5 hK) (fA (lq hK) (eC 1 rfl) λJ J=>rfl) (lC (eL 4 rfl) (lC (eL 5 rfl) (lC (ME.tup (lC (ME.str (j:=17) rfl) (lC (fA (pp hK) (eL 2 rfl) λJ J=>rfl) (lC (eB MV.tuple (gm hK rfl) bI.type (lC (eL 3 rfl) ML.nil rfl) rfl) ML.nil rfl) rfl) rfl) rfl) ML.nil rfl) rfl) rfl) rfl λJ=>rfl)) MS.nil)))))
noncomputable def gI:RF:=cT 3 [] [0,1,2] 3 (ag (bK (bo 3) (rK (.nat 0))) (ag (mA (c7 (ae 2)) (jh 2 (dQ (bo 4) (dQ (bo 5) nz))) (ag (mc (pT (B4 (mz (bw 356 iw (ae 0) aq))) (pT (mz (bw 356 mD (ae 0) (aa (bT (bq 356 1 (ae 0)) (ae 1)) (aa (ae 5) aq)))) (tK true))) (ag (bK (bo 3) (fp il (ae 3) (rK (.nat 1)))) aU) aU) aU) FU) (ag (eD (dD .list fS (bq 356 5 (ae 0)) (aa (dY (aa (bq 356 6 (ae 0)) (aa (bq 263 0 (bT (bq 356 1 (ae 0)) (ae 1))) (aa (aO fZ (aa (ae 2) aq)) (aa (ae 3) aq))))) aq))) (ag (cB (ae 3)) aU))))
theorem jz:MF C (GV C.w.params hand) 343 14 gI:=by
 refine j0 hK (cs:=[]) (ls:=[("self",0),("k",1),("found",2)]) (rest:=[("joined",false),("c",false),("subst",false)]) rfl rfl (b3 λJ J J=>rfl) ?_
 exact(MS.cons (aS (gL 3 rfl) ME.int rfl rfl) (MS.cons (M1.for FU rfl (MI.any (eL 2 rfl)) (gz rfl rfl (jT.cons rfl (gL 4 rfl) (jT.cons rfl (gL 5 rfl) jT.nil))) (MS.cons (M1.ifS (MT.boolOp (MA.consAnd (MT.not (MT.val rfl (eM (lh hK) (kA hK) (eL 0 rfl) ML.nil rfl λJ=>rfl))) (MA.consAnd (MT.val rfl (eM (r9 hK) (rj hK) (eL 0 rfl) (lC (bj bp rfl (fA (jN hK) (eL 0 rfl) λJ J=>rfl) (eL 1 rfl)) (lC (eL 5 rfl) ML.nil rfl) rfl) rfl λJ=>rfl)) MA.nilAnd))) (MS.cons (aS (gL 3 rfl) (ME.bin MB.add (eL 3 rfl) ME.int) rfl rfl) MS.nil) MS.nil) MS.nil)) (MS.cons (M1.expr rfl (cn (t:=.list) rfl MV.append ch rfl (λJ=>rfl) (fA (po hK) (eL 0 rfl) λJ J=>rfl) (lC (ME.tup (lC (fA (iX hK) (eL 0 rfl) λJ J=>rfl) (lC (fA (pp hK) (bj bp rfl (fA (jN hK) (eL 0 rfl) λJ J=>rfl) (eL 1 rfl)) λJ J=>rfl) (lC (eB MV.len (cR hK rfl) bI.builtin (lC (eL 2 rfl) ML.nil rfl) rfl) (lC (eL 3 rfl) ML.nil rfl) rfl) rfl) rfl) rfl) ML.nil rfl))) (MS.cons (M1.ret (eL 3 rfl)) MS.nil))))
noncomputable def ll:RF:=cT 1 [some 0] [] 0 (ag (cB (dS (c7 (aO pZ (aa (aO fZ (aa (bq 438 0 (az 0)) aq)) aq))) [0] 1 (bo 1) (cg dE (bT (bq 438 0 (az 0)) (ae 1)) (ae 1)) (cA (ae 1)) FU)) aU)
theorem pR:MF C (GV C.w.params hand) 414 1 ll:=by
 refine j0 hK (cs:=[("self",some 0)]) (ls:=[]) (rest:=[]) rfl rfl (b1 λJ=>rfl) ?_
 exact(MS.cons (M1.ret (ME.comp1 (fs:=[("self",0)]) (rest:=[("a",false)]) FU (.of rfl rfl) rfl rfl (MI.any (eB MV.range (mW hK rfl) bI.type (lC (eB MV.len (cR hK rfl) bI.builtin (lC (fA (g9 hK) (eC 0 rfl) λJ J=>rfl) ML.nil rfl) rfl) ML.nil rfl) rfl)) (gL 1 rfl) (gV (tC (im bp) (bj bp rfl (fA (g9 hK) (eC 0 rfl) λJ J=>rfl) (eL 1 rfl)) (eL 1 rfl) rfl)) (eL 1 rfl))) MS.nil)
noncomputable def jE:RF:=cT 1 [] [0] 0 (ag (cB (bw 438 ll (bq 566 1 (ae 0)) aq)) aU)
theorem mx:MF C (GV C.w.params hand) 534 2 jE:=by
 refine j0 hK (cs:=[]) (ls:=[("self",0)]) (rest:=[]) rfl rfl (b1 λJ=>rfl) ?_
 exact(MS.cons (M1.ret (eM (pR hK) (pb hK) (fA (lp hK) (eL 0 rfl) λJ J=>rfl) ML.nil rfl λJ=>rfl)) MS.nil)
noncomputable def lk:RF:=cT 2 [] [0,1] 0 (ag (cB (aO o7 (aa (bT (bq 438 1 (ae 0)) (bw 438 gh (ae 0) (aa (ae 1) aq))) aq))) aU)
theorem pQ:MF C (GV C.w.params hand) 409 2 lk:=by
 refine j0 hK (cs:=[]) (ls:=[("self",0),("a",1)]) (rest:=[]) rfl rfl (b2 λJ J=>rfl) ?_
 exact(MS.cons (M1.ret (eB (m9 bp rfl) (fV hK rfl) bI.builtin (lC (bj bp rfl (fA (mS hK) (eL 0 rfl) λJ J=>rfl) (eM (iI hK) (gY hK) (eL 0 rfl) (lC (eL 1 rfl) ML.nil rfl) rfl λJ=>rfl)) ML.nil rfl) rfl)) MS.nil)
noncomputable def mH:RF:=cT 2 [] [0,1] 0 (ag (cB (bw 438 lk (bq 566 1 (ae 0)) (aa (ae 1) aq))) aU)
theorem sd:MF C (GV C.w.params hand) 541 3 mH:=by
 refine j0 hK (cs:=[]) (ls:=[("self",0),("c",1)]) (rest:=[]) rfl rfl (b2 λJ J=>rfl) ?_
 exact(MS.cons (M1.ret (eM (pQ hK) (pa hK) (fA (lp hK) (eL 0 rfl) λJ J=>rfl) (lC (eL 1 rfl) ML.nil rfl) rfl λJ=>rfl)) MS.nil)
noncomputable def i8:RF:=cT 2 [some 0] [1] 0 (ag (cB (mK (dS (c7 (bw 566 mH (az 0) (aa (ae 1) aq))) [0] 1 (bo 1) (tK true) (cA (bw 566 kw (az 0) (aa (ae 1) aq))) FU))) aU)
theorem qX:MF C (GV C.w.params hand) 546 4 i8:=by
 refine j0 hK (cs:=[("self",some 0)]) (ls:=[("c",1)]) (rest:=[]) rfl rfl (b2 λJ J=>rfl) ?_
 exact(MS.cons (M1.ret (lF bp (fV hK rfl) (qg hK rfl) rfl (ME.comp1 (fs:=[("self",0)]) (rest:=[("n",false)]) FU (.of rfl rfl) rfl rfl (MI.any (eM (sd hK) (rl hK) (eC 0 rfl) (lC (eL 1 rfl) ML.nil rfl) rfl λJ=>rfl)) (gL 1 rfl) iP.nil (eM (mu hK) (lM hK) (eC 0 rfl) (lC (eL 1 rfl) ML.nil rfl) rfl λJ=>rfl)))) MS.nil)
noncomputable def kg(n:Nat):RF:=Nat.rec (motive:=λJ=>RF) (λJ J J=>false) (λJ ih=>cT 4 [some 0,none,none] [1,2,3] 5 (ag (bK (bo 6) (bT (ae 5) (rK (.nat 0)))) (ag (mc (mz (aO eH (aa (ae 5) aq))) (ag (bK (bo 7) (aO A2 (aa (ae 3) aq))) (ag (bK (rp (ae 7) (ae 6)) (ae 4)) (ag (cB (Ea (cg dE (dD .dict sD (ae 3) (aa (ae 6) (aa (ae 4) aq))) (ae 4)) (cP (aa (ae 7) aq)) (cP aq))) aU))) aU) (ag (bK (bo 8) (cP aq)) (ag (mA (c7 (bw 566 i8 (bq 236 0 (az 2)) (aa (ae 4) aq))) (bo 9) (ag (mc (pT (cg dE (bT (ae 9) (rK (.nat 0))) (ae 6)) (pT (cg dE (aO fZ (aa (ae 9) aq)) (aO fZ (aa (ae 5) aq))) (tK true))) (ag (bK (bo 10) (cP (aa (ae 3) aq))) (ag (mA (EQ (io (ae 9) (rK (.nat 1))) (io (ae 5) (rK (.nat 1)))) (jh 2 (dQ (g6 1) (dQ (g6 0) nz))) (ag (lj 10 (c7 (ae 10)) [1,0,2] 2 (bo 3) (tK true) (uh (c7 (bw 236 ih (az 2) (aa (ae 3) (aa (az 0) (aa (az 1) aq))))) (bo 4) (tK true) (cA (ae 4)) FU) FU) aU) FU) (ag (eD (dD .list lK (ae 8) (aa (ae 10) aq))) aU))) aU) aU) FU) (ag (cB (ae 8)) aU)))))) n
theorem lG{n:Nat}{ih:RF}(hi:MF C (GV C.w.params hand) 221 (5+n) ih):MF C (GV C.w.params hand) 221 (5+n+1) (cT 4 [some 0,none,none] [1,2,3] 5 (ag (bK (bo 6) (bT (ae 5) (rK (.nat 0)))) (ag (mc (mz (aO eH (aa (ae 5) aq))) (ag (bK (bo 7) (aO A2 (aa (ae 3) aq))) (ag (bK (rp (ae 7) (ae 6)) (ae 4)) (ag (cB (Ea (cg dE (dD .dict sD (ae 3) (aa (ae 6) (aa (ae 4) aq))) (ae 4)) (cP (aa (ae 7) aq)) (cP aq))) aU))) aU) (ag (bK (bo 8) (cP aq)) (ag (mA (c7 (bw 566 i8 (bq 236 0 (az 2)) (aa (ae 4) aq))) (bo 9) (ag (mc (pT (cg dE (bT (ae 9) (rK (.nat 0))) (ae 6)) (pT (cg dE (aO fZ (aa (ae 9) aq)) (aO fZ (aa (ae 5) aq))) (tK true))) (ag (bK (bo 10) (cP (aa (ae 3) aq))) (ag (mA (EQ (io (ae 9) (rK (.nat 1))) (io (ae 5) (rK (.nat 1)))) (jh 2 (dQ (g6 1) (dQ (g6 0) nz))) (ag (lj 10 (c7 (ae 10)) [1,0,2] 2 (bo 3) (tK true) (uh (c7 (bw 236 ih (az 2) (aa (ae 3) (aa (az 0) (aa (az 1) aq))))) (bo 4) (tK true) (cA (ae 4)) FU) FU) aU) FU) (ag (eD (dD .list lK (ae 8) (aa (ae 10) aq))) aU))) aU) aU) FU) (ag (cB (ae 8)) aU)))))):=by
 refine j0 hK (cs:=[("self",some 0),("kid",none),("part",none)]) (ls:=[("table",1),("c",2),("pattern",3)]) (rest:=[("op",false),("late",false),("found",false),("node",false),("tables",false)]) rfl rfl (b4 λJ J J J=>rfl) ?_
 exact(MS.cons (aS (gL 6 rfl) (bj bp rfl (eL 5 rfl) ME.int) rfl rfl) (MS.cons (M1.ifS (MT.val rfl (ME.call (iH hK) (by first | exact N rfl | exact uz rfl | exact ad _) rfl (by rw[hK]; rfl) rfl (by rw[hK]; rfl) rfl (lC (eL 5 rfl) ML.nil rfl))) (MS.cons (aS (gL 7 rfl) (eB (MV.dict bp rfl) (Bn hK rfl) bI.type (lC (eL 3 rfl) ML.nil rfl) rfl) rfl rfl) (MS.cons (aS (MG.sub bp rfl (eL 7 rfl) (eL 6 rfl)) (eL 4 rfl) rfl rfl) (MS.cons (M1.ret (ME.ifExp (tC (im bp) (cn (t:=.dict) rfl (MV.get bp rfl) eX rfl (λJ=>rfl) (eL 3 rfl) (lC (eL 6 rfl) (lC (eL 4 rfl) ML.nil rfl) rfl)) (eL 4 rfl) rfl) (ME.list (lC (eL 7 rfl) ML.nil rfl) rfl) (ME.list ML.nil rfl))) MS.nil))) MS.nil) (MS.cons (aS (gL 8 rfl) (ME.list ML.nil rfl) rfl rfl) (MS.cons (M1.for FU rfl (MI.any (ME.meth (qX hK) (by first | exact N rfl | exact uz rfl | exact ad _) (p9 hK) rfl (λJ=>rfl) (fA (sZ hK) (eC 2 rfl) λJ J=>rfl) (lC (eL 4 rfl) ML.nil rfl))) (gL 9 rfl) (MS.cons (M1.ifS (MT.boolOp (MA.consAnd (tC (im bp) (bj bp rfl (eL 9 rfl) ME.int) (eL 6 rfl) rfl) (MA.consAnd (tC (im bp) (eB MV.len (cR hK rfl) bI.builtin (lC (eL 9 rfl) ML.nil rfl) rfl) (eB MV.len (cR hK rfl) bI.builtin (lC (eL 5 rfl) ML.nil rfl) rfl) rfl) MA.nilAnd))) (MS.cons (aS (gL 10 rfl) (ME.list (lC (eL 3 rfl) ML.nil rfl) rfl) rfl rfl) (MS.cons (M1.for FU rfl (MI.zip (Au hK rfl) rfl rfl (gW (eL 9 rfl) ME.int) (gW (eL 5 rfl) ME.int)) (gz rfl rfl (jT.cons rfl (gC 1 rfl) (jT.cons rfl (gC 0 rfl) jT.nil))) (MS.cons (M1.comp2 (fs:=[("kid",1),("part",0),("self",2)]) (rest:=[("one",false),("late",false)]) FU FU (.of rfl rfl) rfl rfl rfl rfl rfl rfl (MI.any (eL 10 rfl)) (gL 3 rfl) iP.nil (MI.any (ME.meth hi (by exact au (N rfl) _:_+0<=_+0) (jJ hK) rfl (λJ=>rfl) (eC 2 rfl) (lC (eL 3 rfl) (lC (eC 0 rfl) (lC (eC 1 rfl) ML.nil rfl) rfl) rfl))) (gL 4 rfl) iP.nil (eL 4 rfl)) MS.nil)) (MS.cons (M1.expr rfl (cn (t:=.list) rfl MV.extend g0 rfl (λJ=>rfl) (eL 8 rfl) (lC (eL 10 rfl) ML.nil rfl))) MS.nil))) MS.nil) MS.nil)) (MS.cons (M1.ret (eL 8 rfl)) MS.nil)))))
theorem oJ(n:Nat):MF C (GV C.w.params hand) 221 (5+n) (kg n):=by
 induction n with
 | zero=>exact MF.any
 | succ n ih=>exact lG hK ih
noncomputable def kf:RF:=cT 3 [] [0,1,2] 2 (ag (bK (bo 3) nU) (ag (mA (c7 (bw 236 (kg 6) (ae 0) (aa nU (aa (bw 566 eW (bq 236 0 (ae 0)) (aa (ae 1) aq)) (aa (ae 2) aq))))) (bo 4) (ag (bK (rp (ae 3) (aO i9 (aa (D9 (ae 4)) aq))) (rK (.bool true))) aU) FU) (ag (cB (aO o7 (aa (ae 3) aq))) aU)))
theorem oI:MF C (GV C.w.params hand) 228 12 kf:=by
 refine j0 hK (cs:=[]) (ls:=[("self",0),("c",1),("pattern",2)]) (rest:=[("substs",false),("table",false)]) rfl rfl (b3 λJ J J=>rfl) ?_
 exact(MS.cons (aS (gL 3 rfl) (ME.dictE rfl) rfl rfl) (MS.cons (M1.for FU rfl (MI.any (eM (oJ hK 6) (jJ hK) (eL 0 rfl) (lC (ME.dictE rfl) (lC (eM (fK hK) (fb hK) (fA (sZ hK) (eL 0 rfl) λJ J=>rfl) (lC (eL 1 rfl) ML.nil rfl) rfl λJ=>rfl) (lC (eL 2 rfl) ML.nil rfl) rfl) rfl) rfl λJ=>rfl)) (gL 4 rfl) (MS.cons (aS (MG.sub bp rfl (eL 3 rfl) (eB MV.tuple (gm hK rfl) bI.type (lC (vf bp rfl (fV hK rfl) (λJ=>rfl) (eL 4 rfl)) ML.nil rfl) rfl)) ME.bool rfl rfl) MS.nil)) (MS.cons (M1.ret (eB (m9 bp rfl) (fV hK rfl) bI.builtin (lC (eL 3 rfl) ML.nil rfl) rfl)) MS.nil)))
noncomputable def mB:RF:=cT 2 [some 0,some 1] [] 0 (ag (cB (dS (c7 (bw 566 jE (bq 236 0 (az 1)) aq)) [0,1] 2 (bo 2) (tK true) (uh (c7 (bw 236 kf (az 1) (aa (ae 2) (aa (az 0) aq)))) (bo 3) (tK true) (cA (dY (aa (ae 2) (aa (ae 3) aq)))) FU) FU)) aU)
theorem r7:MF C (GV C.w.params hand) 233 13 mB:=by
 refine j0 hK (cs:=[("self",some 0),("pattern",some 1)]) (ls:=[]) (rest:=[]) rfl rfl (b2 λJ J=>rfl) ?_
 exact(MS.cons (M1.ret (ME.comp2 (fs:=[("pattern",0),("self",1)]) (rest:=[("c",false),("subst",false)]) FU FU (.of rfl rfl) rfl rfl rfl (MI.any (eM (mx hK) (lY hK) (fA (sZ hK) (eC 1 rfl) λJ J=>rfl) ML.nil rfl λJ=>rfl)) (gL 2 rfl) iP.nil (MI.any (eM (oI hK) (nZ hK) (eC 1 rfl) (lC (eL 2 rfl) (lC (eC 0 rfl) ML.nil rfl) rfl) rfl λJ=>rfl)) (gL 3 rfl) iP.nil (ME.tup (lC (eL 2 rfl) (lC (eL 3 rfl) ML.nil rfl) rfl) rfl))) MS.nil)
noncomputable def iu:RF:=cT 2 [] [0,1] 1 (ag (mc (cg FL (bT (bq 356 8 (ae 0)) (ae 1)) (bq 356 6 (ae 0))) (ag (cB (rK .none)) aU) aU) (ag (bK (bo 2) (bw 236 mB (bq 356 3 (ae 0)) (aa (bq 263 1 (bT (bq 356 1 (ae 0)) (ae 1))) aq))) (ag (mc (AT (dD .dict sD (bq 356 2 (ae 0)) (aa (rK (.str 14)) (aa (rK (.str 19)) aq))) (cg FL (aO fZ (aa (ae 2) aq)) (dD .dict sD (bq 356 2 (ae 0)) (aa (rK (.str 11)) (aa (rK (.nat 100)) aq))))) (ag (bK (rp (bq 356 7 (ae 0)) (ae 1)) (aO Je (aa (rK (.nat 1)) (aa (fp FO (rK (.nat 2)) (bT (bq 356 7 (ae 0)) (ae 1))) aq)))) (ag (bK (rp (bq 356 8 (ae 0)) (ae 1)) (fp il (fp il (bq 356 6 (ae 0)) (rK (.nat 1))) (bT (bq 356 7 (ae 0)) (ae 1)))) (ag (eD (dD .list fS (bq 356 5 (ae 0)) (aa (dY (aa (bq 356 6 (ae 0)) (aa (bq 263 0 (bT (bq 356 1 (ae 0)) (ae 1))) (aa (aO fZ (aa (ae 2) aq)) (aa (rK (.nat 0)) aq))))) aq))) (ag (cB (rK .none)) aU)))) aU) (ag (cB (ae 2)) aU))))
theorem lg:MF C (GV C.w.params hand) 331 14 iu:=by
 refine j0 hK (cs:=[]) (ls:=[("self",0),("k",1)]) (rest:=[("found",false)]) rfl rfl (b2 λJ J=>rfl) ?_
 exact(MS.cons (M1.ifS (tC oG (bj bp rfl (fA (sW hK) (eL 0 rfl) λJ J=>rfl) (eL 1 rfl)) (fA (iX hK) (eL 0 rfl) λJ J=>rfl) rfl) (MS.cons (M1.ret ME.none) MS.nil) MS.nil) (MS.cons (aS (gL 2 rfl) (eM (r7 hK) (rf hK) (fA (Fs hK) (eL 0 rfl) λJ J=>rfl) (lC (fA (xK hK) (bj bp rfl (fA (jN hK) (eL 0 rfl) λJ J=>rfl) (eL 1 rfl)) λJ J=>rfl) ML.nil rfl) rfl λJ=>rfl) rfl rfl) (MS.cons (M1.ifS (BY (Bq.cmp (λx y J k k' h q=>Ev y x k k' h q) (eZ.call Br.len (eZ.cons eZ.loc eZ.nil)) (yJ (eZ.fld eZ.loc))) (cn (t:=.dict) rfl (MV.get bp rfl) eX rfl (λJ=>rfl) (fA (mT hK) (eL 0 rfl) λJ J=>rfl) (lC (ME.str (j:=14) rfl) (lC (ME.str (j:=19) rfl) ML.nil rfl) rfl)) (tC oG (eB MV.len (cR hK rfl) bI.builtin (lC (eL 2 rfl) ML.nil rfl) rfl) (cn (t:=.dict) rfl (MV.get bp rfl) eX rfl (λJ=>rfl) (fA (mT hK) (eL 0 rfl) λJ J=>rfl) (lC (ME.str (j:=11) rfl) (lC ME.int ML.nil rfl) rfl)) rfl)) (MS.cons (aS (MG.sub bp rfl (fA (sX hK) (eL 0 rfl) λJ J=>rfl) (eL 1 rfl)) (eB DI (FM hK rfl) bI.builtin (lC ME.int (lC (ME.bin vg ME.int (bj bp rfl (fA (sX hK) (eL 0 rfl) λJ J=>rfl) (eL 1 rfl))) ML.nil rfl) rfl) rfl) rfl rfl) (MS.cons (aS (MG.sub bp rfl (fA (sW hK) (eL 0 rfl) λJ J=>rfl) (eL 1 rfl)) (ME.bin MB.add (ME.bin MB.add (fA (iX hK) (eL 0 rfl) λJ J=>rfl) ME.int) (bj bp rfl (fA (sX hK) (eL 0 rfl) λJ J=>rfl) (eL 1 rfl))) rfl rfl) (MS.cons (M1.expr rfl (cn (t:=.list) rfl MV.append ch rfl (λJ=>rfl) (fA (po hK) (eL 0 rfl) λJ J=>rfl) (lC (ME.tup (lC (fA (iX hK) (eL 0 rfl) λJ J=>rfl) (lC (fA (pp hK) (bj bp rfl (fA (jN hK) (eL 0 rfl) λJ J=>rfl) (eL 1 rfl)) λJ J=>rfl) (lC (eB MV.len (cR hK rfl) bI.builtin (lC (eL 2 rfl) ML.nil rfl) rfl) (lC ME.int ML.nil rfl) rfl) rfl) rfl) rfl) ML.nil rfl))) (MS.cons (M1.ret ME.none) MS.nil)))) MS.nil) (MS.cons (M1.ret (eL 2 rfl)) MS.nil))))
noncomputable def jC:RF:=cT 1 [some 0,none] [] 3 (ag (AW [3,2] (dY (aa (rK (.nat 0)) (aa (aO pZ (aa (aO fZ (aa (bq 356 1 (az 1)) aq)) aq)) aq)))) (ag (eD (bw 566 gk (bq 356 0 (az 1)) aq)) (ag (mc (AS (dD .dict sD (bq 356 2 (az 1)) (aa (rK (.str 14)) (aa (rK (.str 19)) aq)))) (ag (mA (c7 (ae 3)) (bo 4) (ag (bK (bo 2) (fp il (ae 2) (bw 356 gI (az 1) (aa (ae 4) (aa (bw 356 iu (az 1) (aa (ae 4) aq)) aq))))) (ag (eD (bw 566 gk (bq 356 0 (az 1)) aq)) aU)) FU) aU) (ag (bK (g6 0) (dS (c7 (ae 3)) [1] 1 (bo 1) (tK true) (cA (bw 356 iu (az 0) (aa (ae 1) aq))) FU)) (ag (bK (bo 2) (aO vN (aa (dS (c7 (ae 3)) [0,1] 1 (bo 2) (λenv s k=>(bT (az 0) (ae 2)) env s λv s=>sF v λb=>k (!b) s) (cA (bw 356 gI (az 1) (aa (ae 2) (aa (bT (az 0) (ae 2)) aq)))) FU) aq))) (ag (eD (bw 566 gk (bq 356 0 (az 1)) aq)) aU)))) (ag (bK (gK 356 6 (az 1)) (fp il (bq 356 6 (az 1)) (rK (.nat 1)))) (ag (cB (ae 2)) aU)))))
theorem nR:MF C (GV C.w.params hand) 348 15 jC:=by
 refine j0 hK (cs:=[("self",some 0),("lists",none)]) (ls:=[]) (rest:=[("joined",false),("some",false),("k",false)]) rfl rfl (b1 λJ=>rfl) ?_
 exact(MS.cons (M1.swap (xs:=[("some",3),("joined",2)]) rfl rfl rfl (ME.tup (lC ME.int (lC (eB MV.range (mW hK rfl) bI.type (lC (eB MV.len (cR hK rfl) bI.builtin (lC (fA (jN hK) (eC 1 rfl) λJ J=>rfl) ML.nil rfl) rfl) ML.nil rfl) rfl) ML.nil rfl) rfl) rfl)) (MS.cons (M1.expr rfl (eM (iJ hK) (gZ hK) (fA (lq hK) (eC 1 rfl) λJ J=>rfl) ML.nil rfl λJ=>rfl)) (MS.cons (M1.ifS (BX (cn (t:=.dict) rfl (MV.get bp rfl) eX rfl (λJ=>rfl) (fA (mT hK) (eC 1 rfl) λJ J=>rfl) (lC (ME.str (j:=14) rfl) (lC (ME.str (j:=19) rfl) ML.nil rfl) rfl))) (MS.cons (M1.for FU rfl (MI.any (eL 3 rfl)) (gL 4 rfl) (MS.cons (aS (gL 2 rfl) (ME.bin MB.add (eL 2 rfl) (eM (jz hK) (jg hK) (eC 1 rfl) (lC (eL 4 rfl) (lC (eM (lg hK) (kz hK) (eC 1 rfl) (lC (eL 4 rfl) ML.nil rfl) rfl λJ=>rfl) ML.nil rfl) rfl) rfl λJ=>rfl)) rfl rfl) (MS.cons (M1.expr rfl (eM (iJ hK) (gZ hK) (fA (lq hK) (eC 1 rfl) λJ J=>rfl) ML.nil rfl λJ=>rfl)) MS.nil))) MS.nil) (MS.cons (r0 rfl rfl (gC 0 rfl) (ME.comp1 (fs:=[("self",1)]) (rest:=[("k",false)]) FU (.of rfl rfl) rfl rfl (MI.any (eL 3 rfl)) (gL 1 rfl) iP.nil (eM (lg hK) (kz hK) (eC 0 rfl) (lC (eL 1 rfl) ML.nil rfl) rfl λJ=>rfl))) (MS.cons (aS (gL 2 rfl) (eB MV.sum (qf hK rfl) bI.builtin (lC (ME.comp1 (fs:=[("lists",0),("self",1)]) (rest:=[("k",false)]) FU (.of rfl rfl) rfl rfl (MI.any (eL 3 rfl)) (gL 2 rfl) (gV (MT.isNotNone (bj bp rfl (eC 0 rfl) (eL 2 rfl)))) (eM (jz hK) (jg hK) (eC 1 rfl) (lC (eL 2 rfl) (lC (bj bp rfl (eC 0 rfl) (eL 2 rfl)) ML.nil rfl) rfl) rfl λJ=>rfl)) ML.nil rfl) rfl) rfl rfl) (MS.cons (M1.expr rfl (eM (iJ hK) (gZ hK) (fA (lq hK) (eC 1 rfl) λJ J=>rfl) ML.nil rfl λJ=>rfl)) MS.nil)))) (MS.cons (aS (MG.fld (xG hK) (eC 1 rfl)) (ME.bin MB.add (fA (iX hK) (eC 1 rfl) λJ J=>rfl) ME.int) rfl rfl) (MS.cons (M1.ret (eL 2 rfl)) MS.nil)))))
noncomputable def oZ:RF:=cT 1 [some 0] [] 1 (ag (pV (cg JP (bq 356 6 (az 0)) (dD .dict sD (bq 356 2 (az 0)) (aa (rK (.str 16)) (aa (rK (.nat 30)) aq)))) (ag (bK (bo 1) (bw 356 jC (az 0) aq)) (ag (mc (mz (bw 356 iw (az 0) aq)) (ag (cB (rK (.str 13))) aU) aU) (ag (mc (pT (cg dE (ae 1) (rK (.nat 0))) (pT (cg dE (dS (c7 (bq 356 8 (az 0))) [0] 1 (bo 1) (cg cGe (ae 1) (bq 356 6 (az 0))) (cA (ae 1)) FU) (cP aq)) (tK true))) (ag (cB (rK (.str 18))) aU) aU) aU))) FU) (ag (cB (rK (.str 16))) aU))
theorem vp:MF C (GV C.w.params hand) 353 16 oZ:=by
 refine j0 hK (cs:=[("self",some 0)]) (ls:=[]) (rest:=[("joined",false)]) rfl rfl (b1 λJ=>rfl) ?_
 exact(MS.cons (M1.while FU (tC MC.lt (fA (iX hK) (eC 0 rfl) λJ J=>rfl) (cn (t:=.dict) rfl (MV.get bp rfl) eX rfl (λJ=>rfl) (fA (mT hK) (eC 0 rfl) λJ J=>rfl) (lC (ME.str (j:=16) rfl) (lC ME.int ML.nil rfl) rfl)) rfl) (MS.cons (aS (gL 1 rfl) (eM (nR hK) (ny hK) (eC 0 rfl) ML.nil rfl λJ=>rfl) rfl rfl) (MS.cons (M1.ifS (MT.val rfl (eM (lh hK) (kA hK) (eC 0 rfl) ML.nil rfl λJ=>rfl)) (MS.cons (M1.ret (ME.str (j:=13) rfl)) MS.nil) MS.nil) (MS.cons (M1.ifS (MT.boolOp (MA.consAnd (tC (im bp) (eL 1 rfl) ME.int rfl) (MA.consAnd (tC (im bp) (ME.comp1 (fs:=[("self",0)]) (rest:=[("late",false)]) FU (.of rfl rfl) rfl rfl (MI.any (fA (sW hK) (eC 0 rfl) λJ J=>rfl)) (gL 1 rfl) (gV (tC Kr (eL 1 rfl) (fA (iX hK) (eC 0 rfl) λJ J=>rfl) rfl)) (eL 1 rfl)) (ME.list ML.nil rfl) rfl) MA.nilAnd))) (MS.cons (M1.ret (ME.str (j:=18) rfl)) MS.nil) MS.nil) MS.nil)))) (MS.cons (M1.ret (ME.str (j:=16) rfl)) MS.nil))
noncomputable def ku:RF:=cT 2 [] [0,1] 0 (ag (bK (gK 301 0 (ae 0)) (ae 1)) aU)
theorem oP:C7 C (GV C.w.params hand) 281 1 ku:=by
 refine zp hK (cs:=[]) (ls:=[("self",0),("heap",1)]) (rest:=[]) rfl rfl (b2 λJ J=>rfl) ?_
 exact(MS.cons (aS (MG.fld (Ff hK) (eL 0 rfl)) (eL 1 rfl) rfl rfl) MS.nil)
noncomputable def kh:RF:=cT 2 [] [0,1] 0 (ag (bK (gK 236 0 (ae 0)) (ae 1)) aU)
theorem oK:C7 C (GV C.w.params hand) 216 1 kh:=by
 refine zp hK (cs:=[]) (ls:=[("self",0),("heap",1)]) (rest:=[]) rfl rfl (b2 λJ J=>rfl) ?_
 exact(MS.cons (aS (MG.fld (Fk hK) (eL 0 rfl)) (eL 1 rfl) rfl rfl) MS.nil)
noncomputable def kq:RF:=cT 4 [] [0,1,2,3] 1 (ag (mc (AU [19,21,15] (dD .dict sD (ae 3) (aa (rK (.str 14)) (aa (rK (.str 19)) aq)))) (ag (λJ J J J=>false) aU) aU) (ag (lj 4 (c7 (ae 2)) [] 1 (bo 0) (tK true) (cA (bq 263 0 (ae 0))) FU) (ag (mc (cg JP (vE (ae 4)) (aO fZ (aa (ae 4) aq))) (ag (λJ J J J=>false) aU) aU) (ag (bK (gK 356 0 (ae 0)) (ae 1)) (ag (bK (gK 356 1 (ae 0)) (aO Ep (aa (ae 2) aq))) (ag (bK (gK 356 2 (ae 0)) (ae 3)) (ag (bK (gK 356 3 (ae 0)) (vG 236 kh (aa (ae 1) aq))) (ag (bK (gK 356 4 (ae 0)) (vG 301 ku (aa (ae 1) aq))) (ag (bK (gK 356 5 (ae 0)) (cP aq)) (ag (bK (gK 356 6 (ae 0)) (rK (.nat 0))) (ag (bK (gK 356 7 (ae 0)) (fp FO (cP (aa (rK (.nat 0)) aq)) (aO fZ (aa (bq 356 1 (ae 0)) aq)))) (ag (bK (gK 356 8 (ae 0)) (fp FO (cP (aa (rK (.nat 0)) aq)) (aO fZ (aa (bq 356 1 (ae 0)) aq)))) aU))))))))))))
theorem oM:C7 C (GV C.w.params hand) 317 3 kq:=by
 refine zp hK (cs:=[]) (ls:=[("self",0),("heap",1),("rules",2),("options",3)]) (rest:=[("names",false)]) rfl rfl (b4 λJ J J J=>rfl) ?_
 exact(MS.cons (M1.ifS (BZ rfl (by rw[hK]; rfl) rfl (by rw[hK]; rfl) (.cons "together" _ (.cons "turns" _ (.cons "rests" _ .nil))) (cn (t:=.dict) rfl (MV.get bp rfl) eX rfl (λJ=>rfl) (eL 3 rfl) (lC (ME.str (j:=14) rfl) (lC (ME.str (j:=19) rfl) ML.nil rfl) rfl))) (MS.cons M1.any MS.nil) MS.nil) (MS.cons (M1.comp1 (fs:=[]) (rest:=[("rule",false)]) FU (.of rfl rfl) rfl rfl rfl rfl rfl (MI.any (eL 2 rfl)) (gL 0 rfl) iP.nil (fA (pp hK) (eL 0 rfl) λJ J=>rfl)) (MS.cons (M1.ifS (tC MC.lt (uu bp (cR hK rfl) (qg hK rfl) rfl (eL 4 rfl)) (eB MV.len (cR hK rfl) bI.builtin (lC (eL 4 rfl) ML.nil rfl) rfl) rfl) (MS.cons M1.any MS.nil) MS.nil) (MS.cons (aS (MG.fld (Fe hK) (eL 0 rfl)) (eL 1 rfl) rfl rfl) (MS.cons (aS (MG.fld (Fd hK) (eL 0 rfl)) (eB MV.list (Bm hK rfl) bI.type (lC (eL 2 rfl) ML.nil rfl) rfl) rfl rfl) (MS.cons (aS (MG.fld (Fc hK) (eL 0 rfl)) (eL 3 rfl) rfl rfl) (MS.cons (aS (MG.fld (Fb hK) (eL 0 rfl)) (ME.cls (oK hK) (by first | exact N rfl | exact uz rfl | exact ad _) (Jq hK) rfl (by rw[hK]; rfl) rfl rfl (lC (eL 1 rfl) ML.nil rfl)) rfl rfl) (MS.cons (aS (MG.fld (Fa hK) (eL 0 rfl)) (ME.cls (oP hK) (by first | exact N rfl | exact uz rfl | exact ad _) (Jp hK) rfl (by rw[hK]; rfl) rfl rfl (lC (eL 1 rfl) ML.nil rfl)) rfl rfl) (MS.cons (aS (MG.fld (E9 hK) (eL 0 rfl)) (ME.list ML.nil rfl) rfl rfl) (MS.cons (aS (MG.fld (xG hK) (eL 0 rfl)) ME.int rfl rfl) (MS.cons (aS (MG.fld (E8 hK) (eL 0 rfl)) (ME.bin vg (ME.list (lC ME.int ML.nil rfl) rfl) (eB MV.len (cR hK rfl) bI.builtin (lC (fA (jN hK) (eL 0 rfl) λJ J=>rfl) ML.nil rfl) rfl)) rfl rfl) (MS.cons (aS (MG.fld (E7 hK) (eL 0 rfl)) (ME.bin vg (ME.list (lC ME.int ML.nil rfl) rfl) (eB MV.len (cR hK rfl) bI.builtin (lC (fA (jN hK) (eL 0 rfl) λJ J=>rfl) ML.nil rfl) rfl)) rfl rfl) MS.nil))))))))))))
noncomputable def AZ(n:Nat):RF:=Nat.rec (motive:=λJ=>RF) (λJ J J=>false) (λJ ih=>cT 1 [none] [0] 2 (ag (bK (bo 2) (cP (aa (dY (aa (dY aq) (aa (ae 1) aq))) aq))) (ag (mA (ES (io (ae 1) (rK (.nat 1)))) (jh 2 (dQ (g6 0) (dQ (bo 3) nz))) (ag (eD (dD .list lK (ae 2) (aa (dS (c7 (aO ih (aa (ae 3) aq))) [0] 2 (jh 2 (dQ (bo 1) (dQ (bo 2) nz))) (tK true) (cA (dY (aa (fp il (dY (aa (az 0) aq)) (ae 1)) (aa (ae 2) aq)))) FU) aq))) aU) FU) (ag (cB (ae 2)) aU)))) n
theorem vk{n:Nat}{ih:RF}(hi:MF C (GV C.w.params hand) 96 (1+n) ih):MF C (GV C.w.params hand) 96 (1+n+1) (cT 1 [none] [0] 2 (ag (bK (bo 2) (cP (aa (dY (aa (dY aq) (aa (ae 1) aq))) aq))) (ag (mA (ES (io (ae 1) (rK (.nat 1)))) (jh 2 (dQ (g6 0) (dQ (bo 3) nz))) (ag (eD (dD .list lK (ae 2) (aa (dS (c7 (aO ih (aa (ae 3) aq))) [0] 2 (jh 2 (dQ (bo 1) (dQ (bo 2) nz))) (tK true) (cA (dY (aa (fp il (dY (aa (az 0) aq)) (ae 1)) (aa (ae 2) aq)))) FU) aq))) aU) FU) (ag (cB (ae 2)) aU)))):=by
 refine j0 hK (cs:=[("k",none)]) (ls:=[("t",0)]) (rest:=[("found",false),("kid",false)]) rfl rfl (b1 λJ=>rfl) ?_
 exact(MS.cons (aS (gL 2 rfl) (ME.list (lC (ME.tup (lC (ME.tup ML.nil rfl) (lC (eL 1 rfl) ML.nil rfl) rfl) rfl) ML.nil rfl) rfl) rfl rfl) (MS.cons (M1.for FU rfl (MI.enum (wf hK rfl) rfl (gW (eL 1 rfl) ME.int)) (gz rfl rfl (jT.cons rfl (gC 0 rfl) (jT.cons rfl (gL 3 rfl) jT.nil))) (MS.cons (M1.expr rfl (cn (t:=.list) rfl MV.extend g0 rfl (λJ=>rfl) (eL 2 rfl) (lC (ME.comp1 (fs:=[("k",0)]) (rest:=[("path",false),("part",false)]) FU (.of rfl rfl) rfl rfl (MI.any (ME.call hi (by exact au (N rfl) _:_+0<=_+0) rfl (by rw[hK]; rfl) rfl (by rw[hK]; rfl) rfl (lC (eL 3 rfl) ML.nil rfl))) (gz rfl rfl (jT.cons rfl (gL 1 rfl) (jT.cons rfl (gL 2 rfl) jT.nil))) iP.nil (ME.tup (lC (ME.bin MB.add (ME.tup (lC (eC 0 rfl) ML.nil rfl) rfl) (eL 1 rfl)) (lC (eL 2 rfl) ML.nil rfl) rfl) rfl)) ML.nil rfl))) MS.nil)) (MS.cons (M1.ret (eL 2 rfl)) MS.nil)))
theorem GA(n:Nat):MF C (GV C.w.params hand) 96 (1+n) (AZ n):=by
 induction n with
 | zero=>exact MF.any
 | succ n ih=>exact vk hK ih
noncomputable def kb:RF:=cT 1 [] [0] 0 (ag (cB (mK (dS (c7 (aO (AZ 6) (aa (ae 0) aq))) [] 2 (jh 2 (dQ (bo 0) (dQ (bo 1) nz))) (mz (aO eH (aa (ae 1) aq))) (cA (bT (ae 1) (rK (.nat 0)))) FU))) aU)
theorem mr:MF C (GV C.w.params hand) 91 8 kb:=by
 refine j0 hK (cs:=[]) (ls:=[("t",0)]) (rest:=[]) rfl rfl (b1 λJ=>rfl) ?_
 exact(MS.cons (M1.ret (lF bp (fV hK rfl) (qg hK rfl) rfl (ME.comp1 (fs:=[]) (rest:=[("path",false),("part",false)]) FU (.of rfl rfl) rfl rfl (MI.any (eF hK (GA hK 6) (lC (eL 0 rfl) ML.nil rfl) rfl rfl rfl)) (gz rfl rfl (jT.cons rfl (gL 0 rfl) (jT.cons rfl (gL 1 rfl) jT.nil))) (gV (MT.val rfl (eF hK (iH hK) (lC (eL 1 rfl) ML.nil rfl) rfl rfl rfl))) (bj bp rfl (eL 1 rfl) ME.int)))) MS.nil)
noncomputable def i7:RF:=cT 5 [none] [0,1,2,3,4] 5 (ag (mc (mz (aO eH (aa (ae 3) aq))) (ag (λJ J J J=>false) aU) aU) (ag (bK (g6 0) (aO kb (aa (ae 3) aq))) (ag (bK (bo 6) (fp il (cP (aa (dY (aa (rK (.str 7)) (aa (ae 4) (aa (ae 4) aq)))) aq)) (aO Ep (aa (ae 5) aq)))) (ag (mA (c7 (ae 6)) (jh 3 (dQ (bo 7) (dQ (bo 8) (dQ (bo 9) nz)))) (ag (mc (cg At (ae 7) (dY (aa (rK (.str 7)) (aa (rK (.str 22)) aq)))) (ag (λJ J J J=>false) aU) aU) (ag (lj 10 (c7 (fp il (aO kb (aa (ae 8) aq)) (aO kb (aa (ae 9) aq)))) [0] 1 (bo 1) (cg At (ae 1) (az 0)) (cA (ae 1)) FU) (ag (mc (cg (tf dE) (ae 10) (cP aq)) (ag (λJ J J J=>false) aU) aU) aU))) FU) (ag (bK (gK 263 0 (ae 1)) (ae 2)) (ag (bK (gK 263 1 (ae 1)) (ae 3)) (ag (bK (gK 263 2 (ae 1)) (ae 4)) (ag (bK (gK 263 3 (ae 1)) (aO i9 (aa (ae 5) aq))) aU))))))))
theorem lS:C7 C (GV C.w.params hand) 253 9 i7:=by
 refine zp hK (cs:=[("known",none)]) (ls:=[("self",0),("name",1),("left",2),("right",3),("needs",4)]) (rest:=[("asked",false),("kind",false),("one",false),("other",false),("lost",false)]) rfl rfl (b5 λJ J J J J=>rfl) ?_
 exact(MS.cons (M1.ifS (MT.val rfl (eF hK (iH hK) (lC (eL 3 rfl) ML.nil rfl) rfl rfl rfl)) (MS.cons M1.any MS.nil) MS.nil) (MS.cons (aS (gC 0 rfl) (eF hK (mr hK) (lC (eL 3 rfl) ML.nil rfl) rfl rfl rfl) rfl rfl) (MS.cons (aS (gL 6 rfl) (ME.bin MB.add (ME.list (lC (ME.tup (lC (ME.str (j:=7) rfl) (lC (eL 4 rfl) (lC (eL 4 rfl) ML.nil rfl) rfl) rfl) rfl) ML.nil rfl) rfl) (eB MV.list (Bm hK rfl) bI.type (lC (eL 5 rfl) ML.nil rfl) rfl)) rfl rfl) (MS.cons (M1.for FU rfl (MI.any (eL 6 rfl)) (gz rfl rfl (jT.cons rfl (gL 7 rfl) (jT.cons rfl (gL 8 rfl) (jT.cons rfl (gL 9 rfl) jT.nil)))) (MS.cons (M1.ifS (tC (wL bp) (eL 7 rfl) (ME.tup (lC (ME.str (j:=7) rfl) (lC (ME.str (j:=22) rfl) ML.nil rfl) rfl) rfl) rfl) (MS.cons M1.any MS.nil) MS.nil) (MS.cons (M1.comp1 (fs:=[("known",0)]) (rest:=[("late",false)]) FU (.of rfl rfl) rfl rfl rfl rfl rfl (MI.any (ME.bin MB.add (eF hK (mr hK) (lC (eL 8 rfl) ML.nil rfl) rfl rfl rfl) (eF hK (mr hK) (lC (eL 9 rfl) ML.nil rfl) rfl rfl rfl))) (gL 1 rfl) (gV (tC (wL bp) (eL 1 rfl) (eC 0 rfl) rfl)) (eL 1 rfl)) (MS.cons (M1.ifS (tC (nE bp) (eL 10 rfl) (ME.list ML.nil rfl) rfl) (MS.cons M1.any MS.nil) MS.nil) MS.nil)))) (MS.cons (aS (MG.fld (Fj hK) (eL 1 rfl)) (eL 2 rfl) rfl rfl) (MS.cons (aS (MG.fld (Fi hK) (eL 1 rfl)) (eL 3 rfl) rfl rfl) (MS.cons (aS (MG.fld (Fh hK) (eL 1 rfl)) (eL 4 rfl) rfl rfl) (MS.cons (aS (MG.fld (Fg hK) (eL 1 rfl)) (eB MV.tuple (gm hK rfl) bI.type (lC (eL 5 rfl) ML.nil rfl) rfl) rfl rfl) MS.nil))))))))
noncomputable def lV:RF:=cT 1 [] [0] 0 (ag (bK (gK 198 0 (ae 0)) (cP aq)) (ag (bK (gK 198 1 (ae 0)) nU) (ag (bK (gK 198 2 (ae 0)) (cP aq)) (ag (bK (gK 198 3 (ae 0)) (cP aq)) aU))))
theorem qZ:C7 C (GV C.w.params hand) 110 1 lV:=by
 refine zp hK (cs:=[]) (ls:=[("self",0)]) (rest:=[]) rfl rfl (b1 λJ=>rfl) ?_
 exact(MS.cons (aS (MG.fld (Fp hK) (eL 0 rfl)) (ME.list ML.nil rfl) rfl rfl) (MS.cons (aS (MG.fld (Fo hK) (eL 0 rfl)) (ME.dictE rfl) rfl rfl) (MS.cons (aS (MG.fld (Fn hK) (eL 0 rfl)) (ME.list ML.nil rfl) rfl rfl) (MS.cons (aS (MG.fld (Fm hK) (eL 0 rfl)) (ME.list ML.nil rfl) rfl rfl) MS.nil))))
noncomputable def km:RF:=cT 1 [] [0] 0 (ag (bK (gK 438 0 (ae 0)) (cP aq)) (ag (bK (gK 438 1 (ae 0)) (cP aq)) (ag (bK (gK 438 2 (ae 0)) (cP aq)) aU)))
theorem oL:C7 C (GV C.w.params hand) 374 1 km:=by
 refine zp hK (cs:=[]) (ls:=[("self",0)]) (rest:=[]) rfl rfl (b1 λJ=>rfl) ?_
 exact(MS.cons (aS (MG.fld (E6 hK) (eL 0 rfl)) (ME.list ML.nil rfl) rfl rfl) (MS.cons (aS (MG.fld (E5 hK) (eL 0 rfl)) (ME.list ML.nil rfl) rfl rfl) (MS.cons (aS (MG.fld (E4 hK) (eL 0 rfl)) (ME.list ML.nil rfl) rfl rfl) MS.nil)))
noncomputable def lU:RF:=cT 1 [] [0] 0 (ag (bK (gK 566 0 (ae 0)) (vG 198 lV aq)) (ag (bK (gK 566 1 (ae 0)) (vG 438 km aq)) (ag (bK (gK 566 2 (ae 0)) (cP aq)) (ag (bK (gK 566 3 (ae 0)) (cP aq)) (ag (bK (gK 566 4 (ae 0)) nU) (ag (bK (gK 566 5 (ae 0)) nU) (ag (bK (gK 566 6 (ae 0)) (cP aq)) aU)))))))
theorem qY:C7 C (GV C.w.params hand) 456 3 lU:=by
 refine zp hK (cs:=[]) (ls:=[("self",0)]) (rest:=[]) rfl rfl (b1 λJ=>rfl) ?_
 exact(MS.cons (aS (MG.fld (E3 hK) (eL 0 rfl)) (ME.cls (qZ hK) (by first | exact N rfl | exact uz rfl | exact ad _) (Jr hK) rfl (by rw[hK]; rfl) rfl rfl ML.nil) rfl rfl) (MS.cons (aS (MG.fld (E2 hK) (eL 0 rfl)) (ME.cls (oL hK) (by first | exact N rfl | exact uz rfl | exact ad _) (Jn hK) rfl (by rw[hK]; rfl) rfl rfl ML.nil) rfl rfl) (MS.cons (aS (MG.fld (E1 hK) (eL 0 rfl)) (ME.list ML.nil rfl) rfl rfl) (MS.cons (aS (MG.fld (E0 hK) (eL 0 rfl)) (ME.list ML.nil rfl) rfl rfl) (MS.cons (aS (MG.fld (EZ hK) (eL 0 rfl)) (ME.dictE rfl) rfl rfl) (MS.cons (aS (MG.fld (EY hK) (eL 0 rfl)) (ME.dictE rfl) rfl rfl) (MS.cons (aS (MG.fld (EX hK) (eL 0 rfl)) (ME.list ML.nil rfl) rfl rfl) MS.nil)))))))
noncomputable def sx(n:Nat):RF:=Nat.rec (motive:=λJ=>RF) (λJ J J=>false) (λJ ih=>cT 2 [some 0] [1] 0 (ag (cB (bw 566 jF (az 0) (aa (bT (ae 1) (rK (.nat 0))) (aa (aO i9 (aa (dS (c7 (io (ae 1) (rK (.nat 1)))) [0] 1 (bo 1) (tK true) (cA (bw 566 ih (az 0) (aa (ae 1) aq))) FU) aq)) aq)))) aU)) n
theorem qW{n:Nat}{ih:RF}(hi:MF C (GV C.w.params hand) 478 (6+n) ih):MF C (GV C.w.params hand) 478 (6+n+1) (cT 2 [some 0] [1] 0 (ag (cB (bw 566 jF (az 0) (aa (bT (ae 1) (rK (.nat 0))) (aa (aO i9 (aa (dS (c7 (io (ae 1) (rK (.nat 1)))) [0] 1 (bo 1) (tK true) (cA (bw 566 ih (az 0) (aa (ae 1) aq))) FU) aq)) aq)))) aU)):=by
 refine j0 hK (cs:=[("self",some 0)]) (ls:=[("term",1)]) (rest:=[]) rfl rfl (b2 λJ J=>rfl) ?_
 exact(MS.cons (M1.ret (ME.meth (se hK) (by first | exact N rfl | exact uz rfl | exact ad _) (qH hK) rfl (λJ=>rfl) (eC 0 rfl) (lC (bj bp rfl (eL 1 rfl) ME.int) (lC (eB MV.tuple (gm hK rfl) bI.type (lC (ME.comp1 (fs:=[("self",0)]) (rest:=[("part",false)]) FU (.of rfl rfl) rfl rfl (MI.any (gW (eL 1 rfl) ME.int)) (gL 1 rfl) iP.nil (ME.meth hi (by exact au (N rfl) _:_+0<=_+0) (qG hK) rfl (λJ=>rfl) (eC 0 rfl) (lC (eL 1 rfl) ML.nil rfl))) ML.nil rfl) rfl) ML.nil rfl) rfl))) MS.nil)
theorem yQ(n:Nat):MF C (GV C.w.params hand) 478 (6+n) (sx n):=by
 induction n with
 | zero=>exact MF.any
 | succ n ih=>exact qW hK ih
noncomputable def kx:RF:=cT 1 [some 0] [] 0 (ag (cB (vE (dS (c7 (aO pZ (aa (bw 566 mF (az 0) aq) aq))) [0] 1 (bo 1) (tK true) (cA (bw 566 kw (az 0) (aa (ae 1) aq))) FU))) aU)
theorem oQ:MF C (GV C.w.params hand) 551 4 kx:=by
 refine j0 hK (cs:=[("self",some 0)]) (ls:=[]) (rest:=[]) rfl rfl (b1 λJ=>rfl) ?_
 exact(MS.cons (M1.ret (uu bp (cR hK rfl) (qg hK rfl) rfl (ME.comp1 (fs:=[("self",0)]) (rest:=[("n",false)]) FU (.of rfl rfl) rfl rfl (MI.any (eB MV.range (mW hK rfl) bI.type (lC (eM (qw hK) (pc hK) (eC 0 rfl) ML.nil rfl λJ=>rfl) ML.nil rfl) rfl)) (gL 1 rfl) iP.nil (eM (mu hK) (lM hK) (eC 0 rfl) (lC (eL 1 rfl) ML.nil rfl) rfl λJ=>rfl)))) MS.nil)
noncomputable def mG:RF:=cT 3 [some 0] [1,2] 1 (ag (bK (bo 3) (dD .dict sD (bq 566 4 (az 0)) (aa (fp il (dY (aa (ae 1) aq)) (aO i9 (aa (dS (c7 (ae 2)) [0] 1 (bo 1) (tK true) (cA (bw 566 eW (az 0) (aa (ae 1) aq))) FU) aq))) (aa (rK (.neg 0)) aq)))) (ag (cB (Ea (cg JP (ae 3) (rK (.nat 0))) (rK (.neg 0)) (bw 566 eW (az 0) (aa (ae 3) aq)))) aU))
theorem wP:MF C (GV C.w.params hand) 556 3 mG:=by
 refine j0 hK (cs:=[("self",some 0)]) (ls:=[("op",1),("classes",2)]) (rest:=[("n",false)]) rfl rfl (b3 λJ J J=>rfl) ?_
 exact(MS.cons (aS (gL 3 rfl) (cn (t:=.dict) rfl (MV.get bp rfl) eX rfl (λJ=>rfl) (fA (xH hK) (eC 0 rfl) λJ J=>rfl) (lC (ME.bin MB.add (ME.tup (lC (eL 1 rfl) ML.nil rfl) rfl) (eB MV.tuple (gm hK rfl) bI.type (lC (ME.comp1 (fs:=[("self",0)]) (rest:=[("c",false)]) FU (.of rfl rfl) rfl rfl (MI.any (eL 2 rfl)) (gL 1 rfl) iP.nil (eM (fK hK) (fb hK) (eC 0 rfl) (lC (eL 1 rfl) ML.nil rfl) rfl λJ=>rfl)) ML.nil rfl) rfl)) (lC oF ML.nil rfl) rfl)) rfl rfl) (MS.cons (M1.ret (ME.ifExp (tC MC.lt (eL 3 rfl) ME.int rfl) oF (eM (fK hK) (fb hK) (eC 0 rfl) (lC (eL 3 rfl) ML.nil rfl) rfl λJ=>rfl))) MS.nil))
noncomputable def oY(n:Nat):RF:=Nat.rec (motive:=λJ=>RF) (λJ J J=>false) (λJ ih=>cT 2 [some 0] [1] 1 (ag (lj 2 (c7 (io (ae 1) (rK (.nat 1)))) [0] 1 (bo 1) (tK true) (cA (aO ih (aa (az 0) (aa (ae 1) aq)))) FU) (ag (cB (Ea (cg oe (rK (.neg 0)) (ae 2)) (rK (.neg 0)) (bw 566 mG (az 0) (aa (bT (ae 1) (rK (.nat 0))) (aa (ae 2) aq))))) aU))) n
theorem oH{n:Nat}{ih:RF}(hi:MF C (GV C.w.params hand) 602 (4+n) ih):MF C (GV C.w.params hand) 602 (4+n+1) (cT 2 [some 0] [1] 1 (ag (lj 2 (c7 (io (ae 1) (rK (.nat 1)))) [0] 1 (bo 1) (tK true) (cA (aO ih (aa (az 0) (aa (ae 1) aq)))) FU) (ag (cB (Ea (cg oe (rK (.neg 0)) (ae 2)) (rK (.neg 0)) (bw 566 mG (az 0) (aa (bT (ae 1) (rK (.nat 0))) (aa (ae 2) aq))))) aU))):=by
 refine j0 hK (cs:=[("heap_now",some 0)]) (ls:=[("t",1)]) (rest:=[("kids",false)]) rfl rfl (b2 λJ J=>rfl) ?_
 exact(MS.cons (M1.comp1 (fs:=[("heap_now",0)]) (rest:=[("kid",false)]) FU (.of rfl rfl) rfl rfl rfl rfl rfl (MI.any (gW (eL 1 rfl) ME.int)) (gL 1 rfl) iP.nil (ME.call hi (by exact au (N rfl) _:_+0<=_+0) rfl (by rw[hK]; rfl) rfl (by rw[hK]; rfl) rfl (lC (eC 0 rfl) (lC (eL 1 rfl) ML.nil rfl) rfl))) (MS.cons (M1.ret (ME.ifExp (tC (AQ bp rfl) oF (eL 2 rfl) rfl) oF (ME.meth (wP hK) (by first | exact N rfl | exact uz rfl | exact ad _) (vO hK) rfl (λJ=>rfl) (eC 0 rfl) (lC (bj bp rfl (eL 1 rfl) ME.int) (lC (eL 2 rfl) ML.nil rfl) rfl)))) MS.nil))
theorem vn(n:Nat):MF C (GV C.w.params hand) 602 (4+n) (oY n):=by
 induction n with
 | zero=>exact MF.any
 | succ n ih=>exact oH hK ih
noncomputable def ke:RF:=cT 2 [] [0,1] 1 (ag (bK (bo 2) (aO i9 (aa (dS (EQ (ae 0) (ae 1)) [] 2 (jh 2 (dQ (bo 0) (dQ (bo 1) nz))) (tK true) (cA (fp Aw (ae 0) (ae 1))) FU) aq))) (ag (cB (Ea (cg JP (aO Kw (aa (ae 2) aq)) (rK (.nat 0))) (rK .none) (ae 2))) aU))
theorem qv:MF C (GV C.w.params hand) 592 1 ke:=by
 refine j0 hK (cs:=[]) (ls:=[("lot",0),("other",1)]) (rest:=[("rest",false)]) rfl rfl (b2 λJ J=>rfl) ?_
 exact(MS.cons (aS (gL 2 rfl) (eB MV.tuple (gm hK rfl) bI.type (lC (ME.comp1 (fs:=[]) (rest:=[("one",false),("two",false)]) FU (.of rfl rfl) rfl rfl (MI.zip (Au hK rfl) rfl rfl (eL 0 rfl) (eL 1 rfl)) (gz rfl rfl (jT.cons rfl (gL 0 rfl) (jT.cons rfl (gL 1 rfl) jT.nil))) iP.nil (ME.bin MB.sub (eL 0 rfl) (eL 1 rfl))) ML.nil rfl) rfl) rfl rfl) (MS.cons (M1.ret (ME.ifExp (tC MC.lt (eB IS (JQ hK rfl) bI.builtin (lC (eL 2 rfl) ML.nil rfl) rfl) ME.int rfl) ME.none (eL 2 rfl))) MS.nil))
noncomputable def kc:RF:=cT 1 [none] [0] 1 (ag (bK (bo 2) (cP (aa (dY aq) aq))) (ag (mA (c7 (ae 1)) (g6 0) (ag (lj 2 (c7 (ae 2)) [0] 2 (bo 1) (tK true) (uh (c7 (aO pZ (aa (fp il (az 0) (rK (.nat 1))) aq))) (bo 2) (tK true) (cA (fp il (ae 1) (dY (aa (ae 2) aq)))) FU) FU) aU) FU) (ag (cB (dS (c7 (ae 2)) [] 1 (bo 0) (cg FL (aO vN (aa (ae 0) aq)) (rK (.nat 0))) (cA (ae 0)) FU)) aU)))
theorem qu:MF C (GV C.w.params hand) 587 1 kc:=by
 refine j0 hK (cs:=[("many",none)]) (ls:=[("counts",0)]) (rest:=[("found",false)]) rfl rfl (b1 λJ=>rfl) ?_
 exact(MS.cons (aS (gL 2 rfl) (ME.list (lC (ME.tup ML.nil rfl) ML.nil rfl) rfl) rfl rfl) (MS.cons (M1.for FU rfl (MI.any (eL 1 rfl)) (gC 0 rfl) (MS.cons (M1.comp2 (fs:=[("many",0)]) (rest:=[("lot",false),("k",false)]) FU FU (.of rfl rfl) rfl rfl rfl rfl rfl rfl (MI.any (eL 2 rfl)) (gL 1 rfl) iP.nil (MI.any (eB MV.range (mW hK rfl) bI.type (lC (ME.bin MB.add (eC 0 rfl) ME.int) ML.nil rfl) rfl)) (gL 2 rfl) iP.nil (ME.bin MB.add (eL 1 rfl) (ME.tup (lC (eL 2 rfl) ML.nil rfl) rfl))) MS.nil)) (MS.cons (M1.ret (ME.comp1 (fs:=[]) (rest:=[("lot",false)]) FU (.of rfl rfl) rfl rfl (MI.any (eL 2 rfl)) (gL 0 rfl) (gV (tC oG (eB MV.sum (qf hK rfl) bI.builtin (lC (eL 0 rfl) ML.nil rfl) rfl) ME.int rfl)) (eL 0 rfl))) MS.nil)))
noncomputable def qA(n:Nat):RF:=Nat.rec (motive:=λJ=>RF) (λJ J J=>false) (λJ ih=>cT 3 [some 0,some 2,none] [1] 2 (ag (mc (cg oe (ae 3) (az 1)) (ag (cB (bT (az 1) (ae 3))) aU) aU) (ag (bK (bo 4) (Ea (cg dE (aO vN (aa (ae 3) aq)) (rK (.nat 1))) (cP (aa (dY (aa (bT (az 2) (dD .tup y9 (ae 3) (aa (rK (.nat 1)) aq))) aq)) aq)) (cP aq))) (ag (mA (c7 (aO kc (aa (ae 3) aq))) (bo 5) (ag (bK (g6 0) (aO ke (aa (ae 3) (aa (ae 5) aq)))) (ag (mc (cg FL (aO vN (aa (az 0) aq)) (rK (.nat 0))) (ag (bK (bo 4) (fp il (ae 4) (dS (c7 (aO ih (aa (az 2) (aa (ae 5) (aa (az 1) aq))))) [1,2,0] 2 (bo 3) (tK true) (uh (c7 (aO ih (aa (az 1) (aa (az 2) (aa (az 0) aq))))) (bo 4) (tK true) (cA (dY (aa (rK (.str 1)) (aa (ae 3) (aa (ae 4) aq))))) FU) FU))) aU) aU) aU)) FU) (ag (bK (rp (az 1) (ae 3)) (ae 4)) (ag (cB (ae 4)) aU)))))) n
theorem pP{n:Nat}{ih:RF}(hi:MF C (GV C.w.params hand) 597 (2+n) ih):MF C (GV C.w.params hand) 597 (2+n+1) (cT 3 [some 0,some 2,none] [1] 2 (ag (mc (cg oe (ae 3) (az 1)) (ag (cB (bT (az 1) (ae 3))) aU) aU) (ag (bK (bo 4) (Ea (cg dE (aO vN (aa (ae 3) aq)) (rK (.nat 1))) (cP (aa (dY (aa (bT (az 2) (dD .tup y9 (ae 3) (aa (rK (.nat 1)) aq))) aq)) aq)) (cP aq))) (ag (mA (c7 (aO kc (aa (ae 3) aq))) (bo 5) (ag (bK (g6 0) (aO ke (aa (ae 3) (aa (ae 5) aq)))) (ag (mc (cg FL (aO vN (aa (az 0) aq)) (rK (.nat 0))) (ag (bK (bo 4) (fp il (ae 4) (dS (c7 (aO ih (aa (az 2) (aa (ae 5) (aa (az 1) aq))))) [1,2,0] 2 (bo 3) (tK true) (uh (c7 (aO ih (aa (az 1) (aa (az 2) (aa (az 0) aq))))) (bo 4) (tK true) (cA (dY (aa (rK (.str 1)) (aa (ae 3) (aa (ae 4) aq))))) FU) FU))) aU) aU) aU)) FU) (ag (bK (rp (az 1) (ae 3)) (ae 4)) (ag (cB (ae 4)) aU)))))):=by
 refine j0 hK (cs:=[("leaves",some 0),("known",some 2),("rest",none)]) (ls:=[("lot",1)]) (rest:=[("found",false),("one",false)]) rfl rfl (b3 λJ J J=>rfl) ?_
 exact(MS.cons (M1.ifS (tC (AQ bp rfl) (eL 3 rfl) (eC 1 rfl) rfl) (MS.cons (M1.ret (bj bp rfl (eC 1 rfl) (eL 3 rfl))) MS.nil) MS.nil) (MS.cons (aS (gL 4 rfl) (ME.ifExp (tC (im bp) (eB MV.sum (qf hK rfl) bI.builtin (lC (eL 3 rfl) ML.nil rfl) rfl) ME.int rfl) (ME.list (lC (ME.tup (lC (bj bp rfl (eC 2 rfl) (cn (t:=.tup) rfl DJ sK rfl (λJ=>rfl) (eL 3 rfl) (lC ME.int ML.nil rfl))) ML.nil rfl) rfl) ML.nil rfl) rfl) (ME.list ML.nil rfl)) rfl rfl) (MS.cons (M1.for FU rfl (MI.any (ME.call (qu hK) (by first | exact N rfl | exact uz rfl | exact ad _) rfl (by rw[hK]; rfl) rfl (by rw[hK]; rfl) rfl (lC (eL 3 rfl) ML.nil rfl))) (gL 5 rfl) (MS.cons (aS (gC 0 rfl) (ME.call (qv hK) (by first | exact N rfl | exact uz rfl | exact ad _) rfl (by rw[hK]; rfl) rfl (by rw[hK]; rfl) rfl (lC (eL 3 rfl) (lC (eL 5 rfl) ML.nil rfl) rfl)) rfl rfl) (MS.cons (M1.ifS (tC oG (eB MV.sum (qf hK rfl) bI.builtin (lC (eC 0 rfl) ML.nil rfl) rfl) ME.int rfl) (MS.cons (aS (gL 4 rfl) (ME.bin MB.add (eL 4 rfl) (ME.comp2 (fs:=[("known",1),("leaves",2),("rest",0)]) (rest:=[("s",false),("t",false)]) FU FU (.of rfl rfl) rfl rfl rfl (MI.any (ME.call hi (by first | exact N rfl | exact uz rfl | exact ad _) rfl (by rw[hK]; rfl) rfl (by rw[hK]; rfl) rfl (lC (eC 2 rfl) (lC (eL 5 rfl) (lC (eC 1 rfl) ML.nil rfl) rfl) rfl))) (gL 3 rfl) iP.nil (MI.any (ME.call hi (by first | exact N rfl | exact uz rfl | exact ad _) rfl (by rw[hK]; rfl) rfl (by rw[hK]; rfl) rfl (lC (eC 1 rfl) (lC (eC 2 rfl) (lC (eC 0 rfl) ML.nil rfl) rfl) rfl))) (gL 4 rfl) iP.nil (ME.tup (lC (ME.str (j:=1) rfl) (lC (eL 3 rfl) (lC (eL 4 rfl) ML.nil rfl) rfl) rfl) rfl))) rfl rfl) MS.nil) MS.nil) MS.nil))) (MS.cons (aS (MG.sub bp rfl (eC 1 rfl) (eL 3 rfl)) (eL 4 rfl) rfl rfl) (MS.cons (M1.ret (eL 4 rfl)) MS.nil)))))
theorem wO(n:Nat):MF C (GV C.w.params hand) 597 (2+n) (qA n):=by
 induction n with
 | zero=>exact MF.any
 | succ n ih=>exact pP hK ih
noncomputable def iV:RF:=cT 3 [some 0,some 2,none] [1] 5 (ag (bK (jh 3 (dQ (g6 0) (dQ (bo 4) (dQ (bo 5) nz)))) (dY (aa (aO kc (aa (az 1) aq)) (aa nU (aa (cP aq) aq))))) (ag (mA (c7 (az 0)) (bo 6) (ag (lj 7 (c7 (aO (qA 6) (aa (ae 3) (aa (ae 6) (aa (ae 4) aq))))) [2] 1 (bo 1) (tK true) (cA (aO (oY 6) (aa (az 0) (aa (ae 1) aq)))) FU) (ag (mc (I1 (cg oe (rK (.neg 0)) (ae 7)) (I1 (cg (tf dE) (ae 7) (fp FO (xb HF (ae 7) (rK (.nat 1))) (aO fZ (aa (ae 7) aq)))) (tK false))) (ag (cB (rK (.bool false))) aU) aU) (ag (eD (dD .list fS (ae 5) (aa (bT (ae 7) (rK (.nat 0))) aq))) aU))) FU) (ag (mc (cg (tf dE) (aO o7 (aa (ae 5) aq)) (bw 566 jE (az 2) aq)) (ag (cB (rK (.bool false))) aU) aU) (ag (lj 8 (c7 (az 0)) [0] 2 (bo 1) (tK true) (uh (c7 (az 0)) (bo 2) (tK true) (cA (aO i9 (aa (dS (EQ (ae 1) (ae 2)) [] 2 (jh 2 (dQ (bo 0) (dQ (bo 1) nz))) (tK true) (cA (fp il (ae 0) (ae 1))) FU) aq))) FU) FU) (ag (cB (vF dE (bw 566 kx (az 2) aq) (fp il (aO fZ (aa (ae 3) aq)) (aO fZ (aa (dS (c7 (ae 8)) [1] 1 (bo 1) (λenv s k=>(aO ke (aa (az 0) (aa (ae 1) aq))) env s λv s=>sF v λb=>k (!b) s) (cA (ae 1)) FU) aq))))) aU)))))
theorem mt:MF C (GV C.w.params hand) 612 11 iV:=by
 refine j0 hK (cs:=[("heap_now",some 0),("counts",some 2),("lots",none)]) (ls:=[("leaves",1)]) (rest:=[("known",false),("seen",false),("lot",false),("told",false),("both",false)]) rfl rfl (b3 λJ J J=>rfl) ?_
 exact(MS.cons (aS (gz rfl rfl (jT.cons rfl (gC 0 rfl) (jT.cons rfl (gL 4 rfl) (jT.cons rfl (gL 5 rfl) jT.nil)))) (ME.tup (lC (eF hK (qu hK) (lC (eC 1 rfl) ML.nil rfl) rfl rfl rfl) (lC (ME.dictE rfl) (lC (ME.list ML.nil rfl) ML.nil rfl) rfl) rfl) rfl) rfl rfl) (MS.cons (M1.for FU rfl (MI.any (eC 0 rfl)) (gL 6 rfl) (MS.cons (M1.comp1 (fs:=[("heap_now",2)]) (rest:=[("t",false)]) FU (.of rfl rfl) rfl rfl rfl rfl rfl (MI.any (eF hK (wO hK 6) (lC (eL 3 rfl) (lC (eL 6 rfl) (lC (eL 4 rfl) ML.nil rfl) rfl) rfl) rfl rfl rfl)) (gL 1 rfl) iP.nil (eF hK (vn hK 6) (lC (eC 0 rfl) (lC (eL 1 rfl) ML.nil rfl) rfl) rfl rfl rfl)) (MS.cons (M1.ifS (MT.boolOp (MA.consOr (tC (AQ bp rfl) oF (eL 7 rfl) rfl) (MA.consOr (tC (nE bp) (eL 7 rfl) (ME.bin vg (rz Cw (eL 7 rfl) ME.int) (eB MV.len (cR hK rfl) bI.builtin (lC (eL 7 rfl) ML.nil rfl) rfl)) rfl) MA.nilOr))) (MS.cons (M1.ret ME.bool) MS.nil) MS.nil) (MS.cons (M1.expr rfl (cn (t:=.list) rfl MV.append ch rfl (λJ=>rfl) (eL 5 rfl) (lC (bj bp rfl (eL 7 rfl) ME.int) ML.nil rfl))) MS.nil)))) (MS.cons (M1.ifS (tC (nE bp) (eB (m9 bp rfl) (fV hK rfl) bI.builtin (lC (eL 5 rfl) ML.nil rfl) rfl) (eM (mx hK) (lY hK) (eC 2 rfl) ML.nil rfl λJ=>rfl) rfl) (MS.cons (M1.ret ME.bool) MS.nil) MS.nil) (MS.cons (M1.comp2 (fs:=[("lots",0)]) (rest:=[("one",false),("other",false)]) FU FU (.of rfl rfl) rfl rfl rfl rfl rfl rfl (MI.any (eC 0 rfl)) (gL 1 rfl) iP.nil (MI.any (eC 0 rfl)) (gL 2 rfl) iP.nil (eB MV.tuple (gm hK rfl) bI.type (lC (ME.comp1 (fs:=[]) (rest:=[("a",false),("b",false)]) FU (.of rfl rfl) rfl rfl (MI.zip (Au hK rfl) rfl rfl (eL 1 rfl) (eL 2 rfl)) (gz rfl rfl (jT.cons rfl (gL 0 rfl) (jT.cons rfl (gL 1 rfl) jT.nil))) iP.nil (ME.bin MB.add (eL 0 rfl) (eL 1 rfl))) ML.nil rfl) rfl)) (MS.cons (M1.ret (ME.cmp (im bp) rfl (eM (oQ hK) (n0 hK) (eC 2 rfl) ML.nil rfl λJ=>rfl) (ME.bin MB.add (eB MV.len (cR hK rfl) bI.builtin (lC (eL 3 rfl) ML.nil rfl) rfl) (eB MV.len (cR hK rfl) bI.builtin (lC (ME.comp1 (fs:=[("counts",1)]) (rest:=[("lot",false)]) FU (.of rfl rfl) rfl rfl (MI.any (eL 8 rfl)) (gL 1 rfl) (gV (MT.isNotNone (eF hK (qv hK) (lC (eC 0 rfl) (lC (eL 1 rfl) ML.nil rfl) rfl) rfl rfl rfl))) (eL 1 rfl)) ML.nil rfl) rfl)))) MS.nil)))))
end
section
variable{C:Cx}{X:bc}{W:En}{l:Loc}{σ:aK}{Q:V->aK->Prop}
theorem DE{x:Str}{pos:PySem.Pos}{v:Value}(hK:C.K=KF C.w.params)(hk:W.sc.names.lookup x=some .globalImplicit)(e:nsIn (KF C.w.params) mainGlobals x=some (some v))(h:Q (.val v) σ)(hd:(x==("__debug__":Str))=false:=by decide):SE C X W (.Name x pos) l σ Q:=
 oE hk ((hK)▸e) h hd
theorem vc{x:Str}{pos:PySem.Pos}{v:Value}(hK:C.K=KF C.w.params)(hk:W.sc.names.lookup x=some .globalImplicit)(e:nsIn (KF C.w.params) mainGlobals x=some ax)(hv:bootBuiltins x=some v)(hn:x≠"__name__")(h:Q (.val v) σ)(hd:(x==("__debug__":Str))=false:=by decide):SE C X W (.Name x pos) l σ Q:=
 AO hk ((hK)▸e) hv hn h hd
theorem Gx{u:Value}(hK:C.K=KF C.w.params)(h:keepIn (KF C.w.params) u=true):bI C (.val u):=vh ((hK)▸h)
theorem BW{i:Int}(h:Q (.int (i.natAbs:Int)) σ):SC C X W σ (.val (.builtin "abs")) [.int i] Q:=by
 rintro g A L s _ _ R hA rfl ⟨_,_,rfl,⟨t,rfl⟩,rfl⟩
 refine call_abs_int λu tk=>Up.here (d:=.int _) (R.toks tk) ⟨u,?_⟩ h
 refine congrArg (λx=>i5 x u) ?_
 by_cases q:i<0
 ·exact(if_pos q).trans (Int.ofNat_natAbs_of_nonpos (nu q)).symm
 ·exact(if_neg q).trans (Dg (ey.mp q)).symm
theorem Go{a:Int}(h:Q (.int (a.fdiv 3)) σ):SV C X W σ [.int a,.int 3] (tY .FloorDiv) Q:=by
 rintro g A L s _ R hA ⟨_,_,rfl,⟨t,rfl⟩,_,_,rfl,⟨u,rfl⟩,rfl⟩
 exact floordiv_int (by decide) (Up.here (d:=.int _) (R.toks _) ⟨_,rfl⟩ h)
end
theorem GK{σ:aK}{i:Nat}{a b:O}:(σ.set i a).set i b=σ.set i b:=by
 unfold aK.set
 congr 1
 funext j
 dsimp only
 split<;>rfl
theorem KE{a b:Int}(h:a.natAbs<1000000):IntMulOk a b:=by
 refine IntMulOk.of_left ?_
 unfold Builtin.Int.intBits
 split
 ·decide
 ·rename_i h0
  have hne:a.natAbs≠0:=by simpa using h0
  have:a.natAbs.log2<20:=(Nat.log2_lt hne).mpr (af h (by decide))
  exact l1 1 20 1 64 this rfl
theorem zq(xs:List Int)(hl:xs.length<=40):Bu (xs.map λc=>(c.natAbs:Int).fmod 1000003):=by
 have hb:∀y∈xs.map (λc=>(c.natAbs:Int).fmod 1000003),0<=y/\y<1000003:=λy hy=>by
  refine aM (a8.mp hy) λc J e2r=>?_
  subst e2r
  exact⟨iS _ (by decide),kZ _ (by decide)⟩
 have hs:∀ys:List Int,(∀y∈ys,0<=y/\y<1000003)->0<=ys.sum/\ys.sum<=1000003*ys.length:=λys=>by
  induction ys with
  | nil=>intro _; exact⟨by decide,by decide⟩
  | cons y ys ih=>
   intro h
   have h1:=h y (.head _)
   have h2:=ih λz hz=>h z (.tail _ hz)
   simp only[ji,List.length_cons]
   exact⟨Int.add_nonneg h1.1 h2.1,gH (Int.add_le_add (nu h1.2) h2.2) (Int.le_of_eq (by rw[Int.natCast_succ,Int.mul_add,Int.mul_one,Int.add_comm]))⟩
 intro j hj
 have h1:=hb _ (gu hj)
 have h2:=hs ((xs.map λc=>(c.natAbs:Int).fmod 1000003).take (j+1)) λy hy=>hb y (List.mem_of_mem_take hy)
 have h3:((xs.map λc=>(c.natAbs:Int).fmod 1000003).take (j+1)).length<=40:=by rw[gq,ar]; exact Z (tL _ _) hl
 refine⟨?_,?_⟩
 ·simp only[bL,aI hj,Option.getD_some]
  exact⟨gH (by decide) h1.1,rP h1.2 (by decide)⟩
 ·exact⟨gH (by decide) h2.1,ii h2.2 (ii (Int.mul_le_mul_of_nonneg_left (gG.mpr h3) (by decide)) (by decide))⟩
noncomputable def nJ(j:Nat)(k:Int)(st:Int):List (Str×V):=[("cells",.ref j),("spot",.int k),("stir",.int st)]
noncomputable def sS(P:Params)(j:Nat)(k:Int)(st:Int):O:=dO P (i3 V.str (nJ j k st))
noncomputable def fC(script:List Int):List Int:=(script.take 40).map λc=>(c.natAbs:Int).fmod 1000003
noncomputable def cK(cs:List Int):Nat->Int
 | 0=>(7+cs.sum).fmod 1009
 | k+1=>if k<cs.length then cK cs k else(cK cs k*37+11).fmod 1009
noncomputable def kN(cs:List Int)(k m:Nat):Nat:=((if h:k<cs.length then cs[k] else(cK cs (k+1)).fdiv 3).fmod m).toNat
theorem uL(cs:List Int)(k:Nat){m:Nat}(hm:0<m):((if h:k<cs.length then cs[k] else(cK cs (k+1)).fdiv 3).fmod m)=(kN cs k m:Int):=by
 have h:=iS (if h:k<cs.length then cs[k] else(cK cs (k+1)).fdiv 3) (b:=(m:Int)) (er.mpr hm)
 unfold kN
 simp only[F6 h]
theorem uK(cs:List Int)(k:Nat){m:Nat}(hm:0<m):kN cs k m<m:=by
 have h:=kZ (if h:k<cs.length then cs[k] else(cK cs (k+1)).fdiv 3) (b:=(m:Int)) (er.mpr hm)
 rw[uL cs k hm] at h
 exact er.mp h
theorem oT(cs:List Int):∀k,0<=cK cs k/\cK cs k<1009
 | 0=>⟨iS _ (by decide),kZ _ (by decide)⟩
 | k+1=>by
  dsimp only[cK]
  split
  ·exact oT cs k
  ·exact⟨iS _ (by decide),kZ _ (by decide)⟩
section
variable{C:Cx}(hK:C.K=KF C.w.params)
include hK
theorem JN{i j k m:Nat}{cs:List Int}(X:bc)(W:En)(σ:aK)(Q:V->aK->Prop)(hd:σ.get i=some (sS C.w.params j k (cK cs k)))(hcs:σ.get j=some (.list (cs.map V.int)))(hne:i≠j)(hl:cs.length<=40)(hm:0<m)(hdp:0<W.d)
  (hq:Q (.int (kN cs k m:Int)) (σ.set i (sS C.w.params j (k+1:Nat) (cK cs (k+1))))):SC C X W σ (.val (.ref 577)) [.ref i,.int (m:Int)] Q:=by
 obtain⟨d',hd'⟩:∃d',W.d=d'+1:=⟨W.d - 1,(dI hdp).symm⟩
 refine SC.fn (Xi:=.none) (d':=d') (a:=577) (by rw[hK]; rfl) (by rw[hK]; rfl) hd' (.of rfl rfl rfl (by decide) rfl) ?_ jo.none ?_
 ·intro vs hv
  refine za (Jx hv) λa b e2r=>?_
  subst e2r
  rfl
 ·intro hcl
  show SS _ _ _ _ _ σ _
  refine SS.cons (S1.assign rfl rfl rfl (SE.sub (SE.local rfl rfl rfl (SE.str ?_))))
  refine SI.dictK (knd:=PySem.strKind C.prog C.w) (enc:=V.str) (sk:=nJ j k (cK cs k)) (encStr _ _) hd rfl (SG.local rfl ?_)
  refine SS.cons (S1.assign rfl rfl rfl (SE.bin (SE.local rfl rfl rfl (SE.int (m8 (SG.sub (SE.local rfl rfl rfl (SE.str (SU.dictK (knd:=PySem.strKind C.prog C.w) (enc:=V.str) (sk:=nJ j k (cK cs k)) (encStr _ _) hd (show(3:Nat)<=1000000 by decide) ?_)))))))))
  have h1:(σ.set i (sS C.w.params j ((k+1:Nat):Int) (cK cs k))).get i=some (sS C.w.params j ((k+1:Nat):Int) (cK cs k)):=if_pos rfl
  have h2:∀o,(σ.set i o).get j=some (.list (cs.map V.int)):=λo=>(if_neg (bA hne)).trans hcs
  have hlen:(cs.map V.int).length<=1000000:=by rw[ar]; exact Z hl (by simp)
  refine SS.cons (S1.ifS (ST.cmp rfl (SE.local rfl rfl rfl (c9 rfl (vc hK rfl rfl rfl (by decide) ⟨bI.builtin,SL.cons rfl (SE.sub (SE.local rfl rfl rfl (SE.str ?_)))⟩)))))
  refine SI.dictK (knd:=PySem.strKind C.prog C.w) (enc:=V.str) (sk:=nJ j ((k+1:Nat):Int) (cK cs k)) (encStr _ _) h1 rfl (SL.nil (rX (IsL.ref (h2 _)) hlen (wE (a0 _ rfl ?_))))
  have hmm:(m:Int)≠0:=Int.ne_of_gt (er.mpr hm)
  rw[<-uL cs k hm] at hq
  by_cases h:k<cs.length
  ·rw[if_pos (by simpa using h)]
   rw[dif_pos h,show cK cs (k+1)=cK cs k by rw[cK,if_pos h]] at hq
   refine SS.cons (S1.ret (SE.bin (SE.sub (SE.sub (SE.local rfl rfl rfl (SE.str ?_))))))
   refine SI.dictK (knd:=PySem.strKind C.prog C.w) (enc:=V.str) (sk:=nJ j ((k+1:Nat):Int) (cK cs k)) (encStr _ _) h1 rfl (SE.local rfl rfl rfl ?_)
   refine SI.list (IsL.ref (h2 _)) (by exact jj _) (qT (er.mpr (af h hl)) (by decide)) (d:=.int cs[k]) ?_ (SE.local rfl rfl rfl (k9 hmm hq))
   rw[eQ,bB,aI h]; rfl
  ·rw[if_neg (by simpa using h)]
   have e2:cK cs (k+1)=(cK cs k*37+11).fmod 1009:=by rw[cK,if_neg h]
   rw[dif_neg h] at hq
   have hs:=oT cs k
   refine SS.nil ?_
   refine SS.cons (S1.assign rfl rfl rfl (SE.bin (SE.bin (SE.bin (SE.sub (SE.local rfl rfl rfl (SE.str ?_)))))))
   refine SI.dictK (knd:=PySem.strKind C.prog C.w) (enc:=V.str) (sk:=nJ j ((k+1:Nat):Int) (cK cs k)) (encStr _ _) h1 rfl (SE.int (BK (KE (er.mp (by rw[Dg hs.1]; exact rP hs.2 (by decide)))) (SE.int (m8 (SE.int (k9 (by decide) ?_))))))
   refine SG.sub (SE.local rfl rfl rfl (SE.str (SU.dictK (knd:=PySem.strKind C.prog C.w) (enc:=V.str) (sk:=nJ j ((k+1:Nat):Int) (cK cs k)) (encStr _ _) h1 (show(3:Nat)<=1000000 by decide) ?_)))
   rw[show dU (nJ j ((k+1:Nat):Int) (cK cs k)) "stir" (.int ((cK cs k*37+11).fmod 1009))=nJ j ((k+1:Nat):Int) (cK cs (k+1)) by rw[e2]; rfl,GK]
   refine SS.cons (S1.ret (SE.bin (SE.bin (SE.sub (SE.local rfl rfl rfl (SE.str ?_))))))
   exact SI.dictK (knd:=PySem.strKind C.prog C.w) (enc:=V.str) (sk:=nJ j ((k+1:Nat):Int) (cK cs (k+1))) (encStr _ _) (if_pos rfl) rfl (SE.int (Go (SE.local rfl rfl rfl (k9 hmm hq))))
theorem JO{script:List Int}(X:bc)(W:En)(σ:aK)(Q:V->aK->Prop)(hz:script.length<=1000)(hc:W.calm=true)(hdp:0<W.d)
  (hq:Q (.ref (σ.nx+2)) (((σ.push (.list ((script.take 40).map V.int))).push (.list ((fC script).map V.int))).push (sS C.w.params (σ.nx+1) ((0:Nat):Int) (cK (fC script) 0)))):SC C X W σ (.val (.ref 582)) [.fl (script.map V.int)] Q:=by
 obtain⟨d',hd'⟩:∃d',W.d=d'+1:=⟨W.d - 1,(dI hdp).symm⟩
 refine SC.fn (Xi:=.none) (d':=d') (a:=582) (by rw[hK]; rfl) (by rw[hK]; rfl) hd' (.of rfl rfl rfl (by decide) rfl) ?_ jo.none ?_
 ·intro vs hv
  refine ik (G7 hv) λa e1r=>?_
  subst e1r
  rfl
 ·intro hcl
  show SS _ _ _ _ _ σ _
  refine SS.cons (mq ⟨rfl,rfl,rfl,rfl,rfl⟩ rfl rfl (jp.any hc (SE.slice (SE.local rfl rfl rfl (pD.no (pD.int ?_))))))
  refine oC (b:=40) IsL.fl (by rw[ar]; exact l1 0 1000 0 1000000 hz rfl) (.inl ⟨_,IsL.ref (gU _ _),?_⟩)
  simp only[<-Kb]
  obtain⟨xs,hxs⟩:∃xs,xs=script.take 40:=⟨_,rfl⟩
  have hxl:xs.length<=40:=by rw[hxs,gq]; exact hZ _ _
  have hcells:fC script=xs.map λc=>(c.natAbs:Int).fmod 1000003:=by rw[hxs]; rfl
  rw[hcells] at hq
  rw[<-hxs] at hq ⊢
  have hσ:IsL (σ.push (.list (xs.map V.int))) (.ref σ.nx) (xs.map V.int):=IsL.ref (gU _ _)
  suffices H:∀(n j:Nat)(l:Loc),j+n=xs.length->jS C _ (Hr (.ref σ.nx)) _ [] _ (n+1) j (((xs.take j).map λc=>(c.natAbs:Int).fmod 1000003).map V.int) l (σ.push (.list (xs.map V.int))) _ from⟨_,H _ 0 _ (el _)⟩
  intro n
  induction n with
  | zero=>
   intro j l hj
   refine a0 none ⟨_,hσ,by rw[cQ]; rw[ar]; exact am hj.symm⟩ ?_
   rw[m4 (i:=j) (am hj.symm)]
   show SS _ _ _ _ _ _ _
   refine SS.cons (S1.ret (SE.dictO rfl rfl (by simp) (by decide) ?_))
   refine SE.str ⟨_,rfl,SE.local rfl rfl rfl ?_⟩
   refine SE.str ⟨_,rfl,SE.int ?_⟩
   refine SE.str ⟨_,rfl,?_⟩
   refine SE.bin (SE.bin (SE.int (c9 rfl (vc hK rfl rfl rfl (by decide) ⟨bI.builtin,SL.cons rfl (SE.local rfl rfl rfl (SL.nil ?_))⟩))))
   refine rT hc (IsL.ref (gU _ _)) (zq xs hxl) (m8 (SE.int (k9 (by decide) ⟨?_,hq⟩)))
   show(["cells","spot","stir"]:List Str).Nodup
   decide
  | succ n ih=>
   intro j l hj
   have hlt:j<xs.length:=aL (cZ (cH n)) hj
   refine⟨some (.int xs[j]),⟨_,hσ,by rw[bB,aI hlt]; rfl⟩,SG.local rfl ?_⟩
   show SE _ _ _ _ _ _ _
   refine SE.bin (c9 rfl (vc hK rfl rfl rfl (by decide) ⟨bI.builtin,SL.cons rfl (SE.local rfl rfl rfl (SL.nil (BW (SE.int (k9 (by decide) ⟨?_,?_⟩)))))⟩))
   ·rw[ar,ar,gq]; exact ah (tL _ _) (ah hxl (by decide))
   ·have e:(((xs.take j).map λc=>(c.natAbs:Int).fmod 1000003).map V.int)++[V.int ((xs[j].natAbs:Int).fmod 1000003)]=(((xs.take (j+1)).map λc=>(c.natAbs:Int).fmod 1000003).map V.int):=by
     rw[rs,aI hlt,dX,dX]; rfl
    rw[e]
    exact ih (j+1) _ ((aV j n).trans hj)
end
noncomputable def jL(xs cs:List Int)(off:Nat)(tb od:Bool):HV where
 hand:=λP t=>match t with
  | .nat i=>sS P 6 ((off+i:Nat):Int) (cK cs (off+i))
  | .nil=>.list (cs.map V.int)
  | _=>.list (xs.map V.int)
 tb:=tb
 od:=od
noncomputable def tm(v:TV)(s:St)(k:Pos->TV->Bool):Bool:=
 TV.rec (motive:=λJ=>Bool) false false (λJ=>false) (λJ=>false) (λJ=>false) (λJ=>false) (λJ J=>false) (λp=>s.at p λo=>TO.rec (motive:=λJ=>Bool) (λJ=>false) (λJ J=>false) (λJ J=>false) (λJ=>false) (λt=>k p t) o) (λJ=>false) (λJ=>false) false (λJ J J J=>false) v
theorem nm(G:b6){v:TV}{s:St}{k:Pos->TV->Bool}(h:tm v s k=true):∃p t,v=.ref p/\(s.den G).get p.num=some (G.hand t)/\k p t=true:=by
 cases v with
 | ref p=>
  refine aM (d8 G (k:=λo=>TO.rec (motive:=λJ=>Bool) (λJ=>false) (λJ J=>false) (λJ J=>false) (λJ=>false) (λt=>k p t) o) h) λo ho h=>?_
  cases o with
  | hand t=>exact bX p t rfl ho h
  | _=>exact nt h
 | _=>exact nt h
noncomputable def xz(v:TV)(b:Bool):Bool:=
 TV.rec (motive:=λJ=>Bool) false false (λJ=>false) (λJ=>false) (λJ=>false) (λJ=>false) (λJ J=>false) (λJ=>false) (λJ=>false) (λJ=>false) b (λJ J J J=>false) v
theorem pi{v:TV}{b:Bool}(h:xz v b=true):v=.nil/\b=true:=by
 cases v<;>first | exact⟨rfl,h⟩ | exact nt h
noncomputable def JR(f:Nat->Bool)(k:Nat->Bool)(m:Nat):Bool:=Nat.rec (motive:=λJ=>Bool) true (λv ih=>cW (Bool.rec true (k v) (f v)) ih) m
theorem Bp{f k:Nat->Bool}:∀{m v:Nat},JR f k m=true->v<m->f v=true->k v=true
 | m+1,v,h,hv,hf=>by
  refine eV (bO (show cW _ (JR f k m)=true from h)) λh1 h2=>?_
  by_cases e:v=m
  ·subst e; rw[hf] at h1; exact h1
  ·exact Bp (m:=m) h2 (by exact aG (av hv) e) hf
noncomputable def PC:TV:=.ref (.o (.i .h))
noncomputable def sy(F:Nat->Nat->Nat->Bool):RF:=λargs s k=>
 bW false (λa r=>tm a s λp t=>gn t λi=>bW false (λb q=>gn b λm=>xz q (cW (bm 1 m) (tm PC s λJ t=>xz t
  (JR (F i m) (λv=>k (.nat v) (s.put (.hand (.nat (bf i))) p)) m)))) r) args
def Bt(cs:List Int)(off:Nat)(F:Nat->Nat->Nat->Bool):Prop:=∀i m,0<m->F i m (kN cs (off+i) m)=true
section
variable{C:Cx}(hK:C.K=KF C.w.params){xs cs:List Int}{off:Nat}{tb od:Bool}{F:Nat->Nat->Nat->Bool}(hl:cs.length<=40)(hF:Bt cs off F)
include hK hl hF
theorem gO:MF C (GV C.w.params (jL xs cs off tb od)) 577 1 (sy F):=λW args s k J h2 h=>by
 rcases bt h with ⟨_,h⟩ | ⟨a,r,rfl,h⟩
 ·exact nt h
 obtain⟨p,t,rfl,hp,h⟩:=nm (GV C.w.params (jL xs cs off tb od)) h
 refine aM (dF (v:=t) h) λi e1r h=>?_
 subst e1r
 rcases bt h with ⟨_,h⟩ | ⟨b,q,rfl,h⟩
 ·exact nt h
 refine aM (dF (v:=b) h) λm e1r h=>?_
 subst e1r
 obtain⟨rfl,h⟩:=pi (v:=q) h
 obtain⟨hm,h⟩:=bO h
 have hm:0<m:=N hm
 refine bD (nm (GV C.w.params (jL xs cs off tb od)) h) λp' t e hc h=>?_
 obtain rfl:p'=.o (.i .h):=by cases e; rfl
 obtain⟨rfl,h⟩:=pi (v:=t) h
 have h:=Bp h (uK cs (off+i) hm) (hF i m hm)
 have hne:p.num≠(Pos.o (.i .h)).num:=λe=>by
  rw[e,hc] at hp
  cases aw hp
 exact JN hK (i:=p.num) (j:=6) (k:=off+i) (m:=m) _ W _ _ hp hc hne hl hm (by assumption) (bX (.nat (kN cs (off+i) m)) _ rfl ((dr (GV C.w.params (jL xs cs off tb od)) (.hand (.nat (i+1))) p s).symm) h)
end
noncomputable def St.pushS(x:TO)(s:St):St:=St.rec (motive:=λJ=>St) (λnx t=>.mk nx.up (Tr.set x nx t)) s
theorem e9(G:b6)(x:TO)(s:St):(s.pushS x).den G=(s.den G).push (x.den G):=by
 obtain⟨nx,t⟩:=s
 show aK.mk nx.up.num ((Tr.set x nx t).sto G)=aK.mk (nx.num+1) _
 rw[nx.num_up,lE]; rfl
noncomputable def s0:St:=.mk .h .e
noncomputable def D3:St:=St.put (.cell (.ref (.i (.i .h)))) .h (((((((s0.pushS (.cell .unset)).pushS (.cell .unset)).pushS (.cell .unset)).pushS (.cell .unset)).pushS (.hand .none)).pushS (.hand .nil)).pushS (.hand (.nat 0)))
noncomputable def v8:TV:=.cons (.ref (.o (.o .h))) (.cons (.ref (.i .h)) (.cons (.ref (.o .h)) (.cons (.ref .h) (nT 10))))
section
variable{C:Cx}(hK:C.K=KF C.w.params){xs cs:List Int}{off:Nat}{tb od:Bool}{F:Nat->Nat->Nat->Bool}(hl:cs.length<=40)(hF:Bt cs off F)
include hK hl hF
noncomputable def oX(F:Nat->Nat->Nat->Bool):RF:=cT 2 [] [0,1] 2 (ag (lj 2 (c7 (ae 1)) [] 1 (bo 0) (tK true) (cA (dY (aa (ae 0) aq))) FU) (ag (pV (cg FL (aO fZ (aa (ae 2) aq)) (rK (.nat 1))) (ag (bK (bo 3) (aO (sy F) (aa (ae 0) (aa (fp Aw (aO fZ (aa (ae 2) aq)) (rK (.nat 1))) aq)))) (ag (bK (bo 2) (fp il (fp il (xb HF (ae 2) (ae 3)) (cP (aa (dY (aa (rK (.str 1)) (aa (bT (ae 2) (ae 3)) (aa (bT (ae 2) (fp il (ae 3) (rK (.nat 1)))) aq)))) aq))) (io (ae 2) (fp il (ae 3) (rK (.nat 2)))))) aU)) FU) (ag (cB (bT (ae 2) (rK (.nat 0)))) aU)))
theorem vm:MF C (GV C.w.params (jL xs cs off tb od)) 607 2 (oX F):=by
 refine j0 hK (cs:=[]) (ls:=[("hand",0),("row",1)]) (rest:=[("left",false),("k",false)]) rfl rfl (b2 λJ J=>rfl) ?_
 exact(MS.cons (M1.comp1 (fs:=[]) (rest:=[("leaf",false)]) FU (.of rfl rfl) rfl rfl rfl rfl rfl (MI.any (eL 1 rfl)) (gL 0 rfl) iP.nil (ME.tup (lC (eL 0 rfl) ML.nil rfl) rfl)) (MS.cons (M1.while FU (tC oG (eB MV.len (cR hK rfl) bI.builtin (lC (eL 2 rfl) ML.nil rfl) rfl) ME.int rfl) (MS.cons (aS (gL 3 rfl) (eF hK (gO hK hl hF) (lC (eL 0 rfl) (lC (ME.bin MB.sub (eB MV.len (cR hK rfl) bI.builtin (lC (eL 2 rfl) ML.nil rfl) rfl) ME.int) ML.nil rfl) rfl) rfl rfl rfl) rfl rfl) (MS.cons (aS (gL 2 rfl) (ME.bin MB.add (ME.bin MB.add (rz Cw (eL 2 rfl) (eL 3 rfl)) (ME.list (lC (ME.tup (lC (ME.str (j:=1) rfl) (lC (bj bp rfl (eL 2 rfl) (eL 3 rfl)) (lC (bj bp rfl (eL 2 rfl) (ME.bin MB.add (eL 3 rfl) ME.int)) ML.nil rfl) rfl) rfl) rfl) ML.nil rfl) rfl)) (gW (eL 2 rfl) (ME.bin MB.add (eL 3 rfl) ME.int))) rfl rfl) MS.nil))) (MS.cons (M1.ret (bj bp rfl (eL 2 rfl) ME.int)) MS.nil)))
noncomputable def vD(F:Nat->Nat->Nat->Bool):RS:=(ag (bK (g6 2) (xb HF (cP (aa (rK (.str 6)) (aa (rK (.str 8)) (aa (rK (.str 9)) aq)))) (fp il (rK (.nat 2)) (aO (sy F) (aa (az 3) (aa (rK (.nat 2)) aq)))))) (ag (AW [5,4] (dY (aa (bT (dY (aa (rK (.str 19)) (aa (rK (.str 21)) (aa (rK (.str 15)) aq)))) (aO (sy F) (aa (az 3) (aa (rK (.nat 3)) aq)))) (aa (vF dE (aO (sy F) (aa (az 3) (aa (rK (.nat 2)) aq))) (rK (.nat 0))) aq)))) (ag (bK (g6 2) (dS (c7 (aO pZ (aa (aO fZ (aa (az 2) aq)) aq))) [3,2] 1 (bo 2) (tK true) (cA (Ea (pT (cg FL (ae 2) (rK (.nat 0))) (pT (cg dE (aO (sy F) (aa (az 0) (aa (rK (.nat 3)) aq))) (rK (.nat 0))) (tK true))) (bT (az 1) (aO (sy F) (aa (az 0) (aa (aO fZ (aa (az 1) aq)) aq)))) (bT (az 1) (ae 2)))) FU)) aU)))
noncomputable def D8(F:Nat->Nat->Nat->Bool):RS:=(ag (bK (jh 3 (dQ (bo 6) (dQ (bo 7) (dQ (bo 8) nz)))) (dY (aa (dY (aa (rK (.str 3)) aq)) (aa (dY (aa (rK (.str 4)) aq)) (aa (dY (aa (rK (.str 5)) aq)) aq))))) (ag (bK (bo 9) (vG 263 i7 (aa (rK (.str 12)) (aa (dY (aa (rK (.str 1)) (aa (dY (aa (rK (.str 1)) (aa (ae 6) (aa (ae 7) aq)))) (aa (ae 8) aq)))) (aa (dY (aa (rK (.str 1)) (aa (ae 6) (aa (dY (aa (rK (.str 1)) (aa (ae 7) (aa (ae 8) aq)))) aq)))) (aa (dY aq) aq)))))) (ag (bK (bo 10) (cP (aa (vG 263 i7 (aa (rK (.str 20)) (aa (dY (aa (rK (.str 1)) (aa (ae 6) (aa (ae 7) aq)))) (aa (dY (aa (rK (.str 1)) (aa (ae 7) (aa (ae 6) aq)))) (aa (dY aq) aq))))) (aa (ae 9) aq)))) (ag (bK (g6 1) (vG 566 lU aq)) (ag (eD (bw 566 (sx 6) (az 1) (aa (aO (oX F) (aa (az 3) (aa (az 2) aq))) aq))) (ag (bK (g6 0) (vG 356 kq (aa (az 1) (aa (Ea (mz (ae 5)) (Kt (ae 10)) (ae 10)) (aa (Ec (rK (.str 14)) (ae 4)) aq))))) (ag (mc (cg (tf dE) (bw 356 oZ (az 0) aq) (rK (.str 18))) (ag (cB (rK (.bool false))) aU) aU) (ag (bK (bo 11) (mK (az 2))) (ag (bK (bo 12) (aO i9 (aa (dS (c7 (ae 11)) [2] 1 (bo 1) (tK true) (cA (dD .list Er (az 0) (aa (ae 1) aq))) FU) aq))) (ag (mc (B4 (mz (aO iV (aa (az 1) (aa (ae 11) (aa (ae 12) aq)))))) (ag (cB (rK (.bool false))) aU) aU) (ag (lj 13 (c7 (bq 566 3 (az 1))) [1] 1 (bo 1) (cg dE (bT (bT (bT (bq 566 2 (az 0)) (ae 1)) (rK (.nat 2))) (rK (.nat 0))) (rK (.str 17))) (cA (ae 1)) FU) (ag (mc (cg (tf dE) (aO vN (aa (dS (c7 (bq 356 5 (az 0))) [] 1 (bo 0) (tK true) (cA (bT (ae 0) (rK (.nat 3)))) FU) aq)) (aO fZ (aa (ae 13) aq))) (ag (cB (rK (.bool false))) aU) aU) (ag (cB (vF dE (dS (c7 (bq 356 5 (az 0))) [0] 1 (bo 1) (pT (cg dE (bT (ae 1) (rK (.nat 0))) (fp Aw (bq 356 6 (az 0)) (rK (.nat 1)))) (pT (cg FL (bT (ae 1) (rK (.nat 3))) (rK (.nat 0))) (tK true))) (cA (ae 1)) FU) (cP aq))) aU)))))))))))))
end
section
variable{C:Cx}{X:bc}{W:En}{l:Loc}{σ:aK}
theorem SS.sub{ss:List Stmt}{σ':aK}{Q:Fl->Loc->aK->Prop}(hn:σ'.nx=σ.nx)(hg:∀i o,σ'.get i=some o->σ.get i=some o)(h:SS C X W ss l σ' Q):SS C X W ss l σ Q:=λg A cenv L m s p o=>
 h g A cenv L m s ⟨⟨p.R.ok,p.R.base,p.R.has,p.R.old,p.R.froz,p.R.held,p.R.fr,p.R.uniq,λa i e=>by rw[hn]; exact p.R.idx a i e,λa i e=>by rw[hn]; exact p.R.idxd a i e,λi o e=>p.R.objs i o (hg i o e),p.R.gens,p.R.os⟩,p.E,p.A,p.fm,p.fl⟩ o
end
section
variable{C:Cx}{G:b6}{sc:Scope}{n:Nat}{ns:List (Str×Bool)}
def F8(C:Cx)(G:b6)(sc:Scope)(n:Nat)(ns:List (Str×Bool))(whole rest:List Stmt)(r:RS):Prop:=
 ∀(W:En)(l:Loc)(env:TV)(s:St)(kn:KN)(Q:Fl->Loc->aK->Prop),W.sc=sc->W.calm=true->n<=W.d->bN G W l ns env->r env s kn (λJ J=>false)=true->
  (∀l' env' s',bN G W l' ns env'->kn env' s'=true->SS C .none W rest l' (s'.den G) Q)->SS C .none W whole l (s.den G) Q
theorem F8.nil{rest:List Stmt}:F8 C G sc n ns rest rest aU:=λJ l env s J J J J J h4 hr k=>k l env s h4 hr
theorem F8.cons{st:Stmt}{ss rest:List Stmt}{a b:RS}(ha:M1 C G sc n ns st a)(hb:F8 C G sc n ns ss rest b):F8 C G sc n ns (st::ss) rest (ag a b):=λW l env s kn Q h1 h2 h3 h4 hr k=>
 SS.cons (rY (ha W l env s _ _ h1 h2 h3 h4 hr) λf l' σ' q=>by
  cases f with
  | next=>
   obtain⟨env',s',h4',e,q⟩:=q
   subst e
   exact hb W l' env' s' kn Q h1 h2 h3 h4' q k
  | ret d=>refine bD q λJ J J J e=>?_; exact nt e
  | brk=>exact q.elim
  | cont=>exact q.elim)
end
theorem Hl{C:Cx}{G:b6}{a:Addr}{oc:Value}{od:Option Addr}{osl:Array (Option Value)}{name qual:Str}{params:Arguments}{scope:Scope}{dV kV doc pm cdv ct:Value}{an:Option Addr}{n:Nat}{st:Stmt}{whole rest:List Stmt}{ns:List (Str×Bool)}{ra:RS}{env:TV}{s:St}{W:En}{σ:aK}{args:List V}{kn:KN}{Q:V->aK->Prop}
  (ho:C.K.lookup a=some ⟨oc,od,.func (fnOf name qual params (st::whole) scope dV kV doc pm an cdv ct),osl⟩)(hcd:codeIn C.K cdv qual=true)(ff:kF scope (bh params))
  (hb:∀vs:List Value,vs.length=args.length->bindArgs (fnOf name qual params (st::whole) scope dV kV doc pm an cdv ct) ⟨vs,[]⟩=pure ((bh params).zip vs))
  (hc:W.calm=true)(hd:n+1<=W.d)(h:F8 C G scope n ns whole rest ra)
  (h0:S1 C .none (An scope σ (W.d - 1) W.calm (some (cdv,qual++".<locals>."))) st (uI scope (bh params) args) (uy scope (bh params) args σ) λf l' σ'=>f=.next/\bN G (An scope σ (W.d - 1) W.calm (some (cdv,qual++".<locals>."))) l' ns env/\σ'=s.den G)
  (hr:ra env s kn (λJ J=>false)=true)
  (h2:∀W' l' env' s',W'.sc=scope->W'.calm=true->n<=W'.d->bN G W' l' ns env'->kn env' s'=true->SS C .none W' rest l' (s'.den G) λf J σ'=>match f with | .ret d=>Q d σ' | _=>Q .none σ'):wu C .none W σ (.val (.ref a)) args Q:=by
 refine wu.fn (Xi:=.none) (d':=W.d - 1) ho hcd (Jc hd) ff hb jo.none λJ=>SS.cons (rY h0 λf l' σ' q=>?_)
 obtain⟨rfl,he,rfl⟩:=q
 exact h _ l' env s kn _ rfl hc (aW hd) he hr λl'' env' s' he' hk=>h2 _ l'' env' s' rfl hc (aW hd) he' hk
noncomputable def Eg(p:Pos):Pos->Bool:=Pos.rec (motive:=λJ=>Pos->Bool) (λq=>Pos.rec (motive:=λJ=>Bool) true (λJ J=>false) (λJ J=>false) q) (λJ ih q=>Pos.rec (motive:=λJ=>Bool) false (λq J=>ih q) (λJ J=>false) q) (λJ ih q=>Pos.rec (motive:=λJ=>Bool) false (λJ J=>false) (λq J=>ih q) q) p
theorem rB:∀{p q:Pos},Eg p q=true->p=q
 | .h,.h,_=>rfl
 | .o p,.o q,h=>congrArg Pos.o (rB (p:=p) (q:=q) h)
 | .i p,.i q,h=>congrArg Pos.i (rB (p:=p) (q:=q) h)
 | .h,.o _,h | .h,.i _,h | .o _,.h,h | .i _,.h,h | .o _,.i _,h | .i _,.o _,h=>nt h
noncomputable def sw(p:Pos)(v:TV)(b:Bool):Bool:=na v (λJ=>false) (λJ=>false) (λJ=>false) (λJ=>false) (λq=>cW (Eg q p) b)
theorem vC{p:Pos}{v:TV}{b:Bool}(h:sw p v b=true):v=.ref p/\b=true:=by
 cases v with
 | ref q=>
  obtain⟨h1,h2⟩:=bO (show cW (Eg q p) b=true from h)
  rw[rB h1]; exact⟨rfl,h2⟩
 | _=>exact nt h
noncomputable def GE(v:TV)(b:Bool):Bool:=TV.rec (motive:=λJ=>Bool) b false (λJ=>false) (λJ=>false) (λJ=>false) (λJ=>false) (λJ J=>false) (λJ=>false) (λJ=>false) (λJ=>false) false (λJ J J J=>false) v
theorem vw{v:TV}{b:Bool}(h:GE v b=true):v=.unset/\b=true:=by
 cases v<;>first | exact⟨rfl,h⟩ | exact nt h
noncomputable def DS(n:Nat):TV->Bool->Bool:=Nat.rec (motive:=λJ=>TV->Bool->Bool) (λv b=>xz v b) (λJ ih v b=>bW false (λa r=>GE a (ih r b)) v) n
theorem DR:∀{n:Nat}{v:TV}{b:Bool},DS n v b=true->v=nT n/\b=true:=by
 intro n
 induction n with
 | zero=>exact @λJ J h=>pi h
 | succ n ih=>
  intro v b h
  rcases bt (l:=v) h with ⟨_,h⟩ | ⟨a,r,rfl,h⟩
  ·exact nt h
  ·refine eV (vw (v:=a) h) λe1 h1=>eV (ih h1) λe2 h2=>?_
   subst e1; subst e2
   exact⟨rfl,h2⟩
noncomputable def envX(t:TV)(mv:Bool):TV:=.cons (.ref (.o (.o .h))) (.cons (.ref (.i .h)) (.cons (.ref (.o .h)) (.cons (.ref .h) (.cons t (.cons (.bool mv) (nT 8))))))
noncomputable def FI(env:TV)(k:Nat->Bool->Bool):Bool:=
 bW false (λv r=>sw (.o (.o .h)) v (bW false (λv r=>sw (.i .h) v (bW false (λv r=>sw (.o .h) v (bW false (λv r=>sw .h v
  (bW false (λv r=>l4.asStr v λo=>bW false (λv r=>tn v λmv=>DS 8 r (k o mv)) r) r)) r)) r)) r)) env
theorem rH{p:Pos}{l:TV}{f:TV->Bool}(h:bW false (λv r=>sw p v (f r)) l=true):∃r,l=.cons (.ref p) r/\f r=true:=by
 refine dn (bt h) (λhq=>eV hq λJ h=>?_) (λhq=>oq hq λv r e h=>?_)
 ·exact nt h
 ·obtain⟨e2,h⟩:=vC h
  exact a0 r (by rw[e,e2]) h
theorem Hv{l:TV}{k:Nat->Bool->Bool}(h:bW false (λv r=>l4.asStr v λo=>bW false (λv r=>tn v λmv=>DS 8 r (k o mv)) r) l=true):∃o mv,l=.cons (.str o) (.cons (.bool mv) (nT 8))/\k o mv=true:=by
 refine dn (bt h) (λhq=>eV hq λJ h=>?_) (λhq=>oq hq λv r e h=>?_)
 ·exact nt h
 refine aM (eT (v:=v) h) λo e1 h=>?_
 refine dn (bt (l:=r) h) (λhq=>eV hq λJ h=>?_) (λhq=>oq hq λv2 r2 e2 h=>?_)
 ·exact nt h
 refine aM (qi (v:=v2) h) λmv e3 h=>?_
 refine eV (DR (n:=8) (v:=r2) h) λe4 h=>?_
 exact rn o mv (by rw[e,e1,e2,e3,e4]) h
theorem CS{env:TV}{k:Nat->Bool->Bool}(h:FI env k=true):∃o mv,env=envX (.str o) mv/\k o mv=true:=by
 refine aM (rH (f:=λr=>bW false (λv r=>sw (.i .h) v _) r) h) λr1 e1 h=>?_
 refine aM (rH (f:=λr=>bW false (λv r=>sw (.o .h) v _) r) h) λr2 e2 h=>?_
 refine aM (rH (f:=λr=>bW false (λv r=>sw .h v _) r) h) λr3 e3 h=>?_
 refine aM (rH h) λr4 e4 h=>?_
 refine oq (Hv h) λo mv e5 h=>?_
 exact rn o mv (by rw[e1,e2,e3,e4,e5]; rfl) h
noncomputable def Cc:List Nat->TV
 | []=>.nil
 | j::r=>.cons (.str j) (Cc r)
theorem pX(G:b6):∀js:List Nat,(Cc js).dens G=js.map λj=>V.str (G.str j)
 | []=>rfl
 | j::r=>congrArg (V.str (G.str j)::·) (pX G r)
noncomputable def Ie(v:TV):(List Nat->Bool)->Bool:=
 TV.rec (motive:=λJ=>(List Nat->Bool)->Bool) (λJ=>false) (λJ=>false) (λJ J=>false) (λJ J=>false) (λJ J=>false) (λJ J=>false) (λJ J J=>false) (λJ J=>false) (λJ J=>false) (λJ J=>false) (λc=>c []) (λa J J ih c=>l4.asStr a λj=>ih λr=>c (j::r)) v
theorem D5{v:TV}:∀{c:List Nat->Bool},Ie v c=true->∃js,v=Cc js/\c js=true:=by
 induction v with
 | nil=>exact @λJ h=>a0 [] rfl h
 | cons a r _ ih=>exact @λc h=>aM (eT (v:=a) h) λj e1 h1=>aM (ih h1) λjs e2 h2=>by subst e1; subst e2; exact a0 (j::js) rfl h2
 | _=>exact @λJ h=>nt h
noncomputable def cellAt(p:Pos)(s:St)(k:TV->Bool):Bool:=s.at p λo=>TO.rec (motive:=λJ=>Bool) (λJ=>false) (λJ J=>false) (λJ J=>false) k (λJ=>false) o
theorem nj(G:b6){p:Pos}{s:St}{k:TV->Bool}(h:cellAt p s k=true):∃v,(s.den G).get p.num=some (.cell (v.deno G))/\k v=true:=by
 refine aM (d8 G h) λo ho h=>?_
 cases o with
 | cell v=>exact a0 v ho h
 | _=>exact nt h
noncomputable def listAt(p:Pos)(s:St)(k:TV->Bool):Bool:=s.at p λo=>TO.rec (motive:=λJ=>Bool) k (λJ J=>false) (λJ J=>false) (λJ=>false) (λJ=>false) o
theorem Cn(G:b6){p:Pos}{s:St}{k:TV->Bool}(h:listAt p s k=true):∃v,(s.den G).get p.num=some (.list (v.dens G))/\k v=true:=by
 refine aM (d8 G h) λo ho h=>?_
 cases o with
 | list v=>exact a0 v ho h
 | _=>exact nt h
noncomputable def nxE(p:Pos)(s:St)(b:Bool):Bool:=St.rec (motive:=λJ=>Bool) (λnx J=>cW (Eg nx p) b) s
theorem Jh(G:b6){p:Pos}{s:St}{b:Bool}(h:nxE p s b=true):(s.den G).nx=p.num/\b=true:=by
 obtain⟨nx,t⟩:=s
 refine eV (bO (show cW (Eg nx p) b=true from h)) λh1 h2=>?_
 rw[<-rB h1]; exact⟨rfl,h2⟩
noncomputable def K0:Pos:=.o (.i (.o .h))
noncomputable def P11:Pos:=.i (.i (.o .h))
noncomputable def P7:Pos:=.i (.i .h)
noncomputable def FH(s:St)(k:List Nat->Bool):Bool:=
 nxE P11 s (cellAt .h s λv=>sw P7 v (cellAt (.o .h) s λv=>sw K0 v (cellAt (.i .h) s λv=>GE v (cellAt (.o (.o .h)) s λv=>GE v
  (tm PC s λJ t=>xz t (tm (.ref P7) s λJ t=>gn t λJ=>listAt K0 s λv=>Ie v k))))))
noncomputable def sB(js:List Nat):St:=.mk P11 (Tr.set (.cell (.ref P7)) .h (Tr.set (.cell (.ref K0)) (.o .h) (Tr.set (.cell .unset) (.i .h) (Tr.set (.cell .unset) (.o (.o .h)) (Tr.set (.hand .nil) (.o (.i .h)) (Tr.set (.hand (.nat 0)) P7 (Tr.set (.list (Cc js)) K0 .e)))))))
def ql(G:b6)(t:Tr)(σ:aK):Prop:=∀j o,t.sto G j=some o->σ.get j=some o
theorem ql.e{G:b6}{σ:aK}:ql G .e σ:=λj o h=>by
 unfold Tr.sto at h
 split at h
 ·cases h
 ·rw[iT] at h; cases h
theorem ql.set{G:b6}{t:Tr}{σ:aK}{p:Pos}{x:TO}(hx:σ.get p.num=some (x.den G))(h:ql G t σ):ql G (Tr.set x p t) σ:=λj o hj=>by
 rw[lE] at hj
 have hj:(if j=p.num then some (x.den G) else t.sto G j)=some o:=hj
 by_cases e:j=p.num
 ·rw[if_pos e] at hj; rw[e,hx]; exact hj
 ·rw[if_neg e] at hj; exact h j o hj
theorem xU{G:b6}{s:St}{k:List Nat->Bool}(h:FH s k=true):∃(i:Nat)(js:List Nat),k js=true/\(s.den G).nx=11/\(s.den G).get 1=some (.cell (some (.ref 7)))/\(s.den G).get 2=some (.cell (some (.ref 10)))/\(s.den G).get 3=some (.cell none)/\(s.den G).get 4=some (.cell none)/\
  (s.den G).get 6=some (G.hand .nil)/\(s.den G).get 7=some (G.hand (.nat i))/\(s.den G).get 10=some (.list ((Cc js).dens G)):=by
 refine eV (Jh G h) λhn q=>?_
 refine aM (nj G q) λv1 h1 q=>?_
 obtain⟨e1,q⟩:=vC q
 refine aM (nj G q) λv2 h2 q=>?_
 obtain⟨e2,q⟩:=vC q
 refine aM (nj G q) λv3 h3 q=>?_
 obtain⟨e3,q⟩:=vw q
 refine aM (nj G q) λv4 h4 q=>?_
 obtain⟨e4,q⟩:=vw q
 refine bD (nm G q) λp6 t6 e6 h6 q=>?_
 refine eV (pi q) λe6' q=>?_
 refine bD (nm G q) λp7 t7 e7 h7 q=>?_
 refine aM (dF q) λi e7' q=>?_
 refine aM (Cn G q) λv10 h10 q=>?_
 refine aM (D5 q) λjs e10 h=>?_
 rw[e1] at h1; rw[e2] at h2; rw[e3] at h3; rw[e4] at h4; rw[e6'] at h6; rw[e7'] at h7; rw[e10] at h10
 exact⟨i,js,h,hn,h1,h2,h3,h4,by rw[<-TV.ref.inj e6] at h6; exact h6,by rw[<-TV.ref.inj e7] at h7; exact h7,h10⟩
theorem FG{P:Params}{xs cs:List Int}{tb od:Bool}{s:St}{k:List Nat->Bool}(h:FH s k=true):∃i js,k js=true/\∀tb' od' js',js.map (j3 tb)=js'.map (j3 tb')->
  ((sB js').den (GV P (jL xs cs i tb' od'))).nx=(s.den (GV P (jL xs cs 0 tb od))).nx/\∀j o,((sB js').den (GV P (jL xs cs i tb' od'))).get j=some o->(s.den (GV P (jL xs cs 0 tb od))).get j=some o:=by
 refine o29 (xU (G:=GV P (jL xs cs 0 tb od)) h) λi js hk hn h1 h2 h3 h4 h6 h7 h10=>?_
 generalize s.den (GV P (jL xs cs 0 tb od))=σ at hn h1 h2 h3 h4 h6 h7 h10 ⊢
 refine rn i js hk (λtb' od' js' e=>⟨hn.symm,ql.set h1 (ql.set h2 (ql.set h3 (ql.set h4 (ql.set h6 (ql.set ?_ (ql.set ?_ ql.e))))))⟩)
 ·rw[show σ.get P7.num=_ from h7]
  show some (sS P 6 ((0+i:Nat):Int) (cK cs (0+i)))=_
  rw[el]; rfl
 ·rw[show σ.get K0.num=_ from h10,pX]
  show _=some (O.list ((Cc js').dens _))
  rw[pX]
  have:=congrArg (List.map V.str) e
  rw[ef,ef] at this
  exact congrArg (λl=>some (O.list l)) this
noncomputable def isT:KT:=λv J=>TV.rec (motive:=λJ=>Bool) false false (λb=>b) (λJ=>false) (λJ=>false) (λJ=>false) (λJ J=>false) (λJ=>false) (λJ=>false) (λJ=>false) false (λJ J J J=>false) v
theorem JA{v:TV}{s:St}(h:isT v s=true):v=.bool true:=by
 cases v with
 | bool b=>exact congrArg TV.bool (show b=true from h)
 | _=>exact nt h
noncomputable def KZ:List (List Nat):=[[6,6],[6,8],[6,6,6],[6,6,8],[6,6,9],[6,8,6],[6,8,8],[6,8,9],[6,9,6],[6,9,8],[6,9,9]]
noncomputable def tu:List (List Nat):=[[6,6],[6,8],[6,6,6],[6,6,8],[6,8,6],[6,8,8],[6,8,9],[6,9,8]]
noncomputable def ze(js:List Nat):Bool×List Nat:=if js.contains 9&&!js.contains 8 then(true,js.map λj=>if j==9 then 8 else j) else(false,js)
theorem Cj:∀js∈KZ,(ze js).2∈tu/\js.map (j3 false)=(ze js).2.map (j3 (ze js).1):=by decide+kernel
noncomputable def okA(o:Nat)(js:List Nat):Bool:=(o==19||o==21||o==15)&&KZ.any λr=>r==js
noncomputable def wb:KN:=λenv s=>FI env λo J=>FH s λjs=>okA o js
noncomputable def FA:Nat->Nat->Nat->Bool:=λJ J J=>true
noncomputable abbrev Li:List (Str×Bool):=[("runner",true),("heap_now",true),("row",true),("hand",true),("order_now",false),("is_moved_first",false),("x",false),("y",false),("z",false),("moved_now",false),("rules_now",false),("leaves",false),("counts",false),("by_rules",false)]
theorem CR{P:Params}{h h':HV}{W:En}{l:Loc}{o:Nat}{mv:Bool}{t:TV}(e:t.deno (GV P h')=(TV.str o).deno (GV P h)):bN (GV P h) W l Li (envX (.str o) mv)->bN (GV P h') W l Li (envX t mv):=
 λ⟨a,b,c,d,q,r⟩=>⟨a,b,c,d,q.trans e.symm,r⟩
noncomputable def FB(br:Nat):Nat->Nat->Nat->Bool:=λi m v=>Bool.rec true (Bool.rec true (bn v br) (bn m 2)) (bn i 0)
theorem K1(cs:List Int)(off:Nat):Bt cs off (FB (kN cs off 2)):=λi m J=>by
 show Bool.rec true (Bool.rec true (bn (kN cs (off+i) m) (kN cs off 2)) (bn m 2)) (bn i 0)=true
 cases e:bn i 0 with
 | false=>rfl
 | true=>
  cases e2:bn m 2 with
  | false=>rfl
  | true=>
   rw[bk e,bk e2]
   exact iR _
noncomputable def fM(t:TV)(mv:Bool)(js:List Nat)(br:Nat):Bool:=D8 (FB br) (envX t mv) (sB js) (λJ J=>false) isT
theorem MS.use{C:Cx}{G:b6}{sc:Scope}{n:Nat}{ns:List (Str×Bool)}{ss:List Stmt}{r:RS}{W:En}{l:Loc}{env:TV}{s:St}{kn:KN}{kr:KT}{Q:Fl->Loc->aK->Prop}(h:MS C G sc n ns ss r)(h1:W.sc=sc)(h2:W.calm=true)(h3:n<=W.d)(h4:bN G W l ns env)(hr:r env s kn kr=true)
  (k:∀f l' σ',qk C G W ns kn kr f l' σ'->Q f l' σ'):SS C .none W ss l (s.den G) Q:=SS.mono (h W l env s kn kr h1 h2 h3 h4 hr) k
set_option maxHeartbeats 4000000 in
theorem Jy{C:Cx}(hK:C.K=KF C.w.params){script:List Int}(hz:script.length<=1000){W:En}(hc:W.calm=true)(hd:18<=W.d)
  (hA:vD FA v8 D3 wb (λJ J=>false)=true)(hB:∀t∈[TV.val 0,TV.str 21],∀mv,∀js∈tu,∀br,br<2->fM t mv js br=true) :
  wu C .none W (s0.den (GV C.w.params (jL (script.take 40) (fC script) 0 false false))) (.val (.ref 617)) [.fl (script.map V.int)] λd J=>d=.bool true:=by
 have hl:(fC script).length<=40:=by unfold fC; rw[ar,gq]; exact hZ _ _
 have hF1:∀off,Bt (fC script) off FA:=λJ J J J=>rfl
 have hF:=hF1 0
 refine Hl (G:=GV C.w.params (jL (script.take 40) (fC script) 0 false false)) (n:=17) (ns:=Li) (env:=v8) (s:=D3) (kn:=wb) (ra:=vD FA) (by rw[hK]; rfl) (by rw[hK]; rfl) (.of rfl rfl rfl (by decide) (by decide)) ?_ hc hd (F8.cons (aS (gC 2 rfl) (rz Cw (ME.list (lC (ME.str (j:=6) rfl) (lC (ME.str (j:=8) rfl) (lC (ME.str (j:=9) rfl) ML.nil rfl) rfl) rfl) rfl) (ME.bin MB.add ME.int (eF hK (gO hK hl hF) (lC (eC 3 rfl) (lC ME.int ML.nil rfl) rfl) rfl rfl rfl))) rfl rfl) (F8.cons (M1.swap (xs:=[("is_moved_first",5),("order_now",4)]) rfl rfl rfl (ME.tup (lC (bj bp rfl (ME.tup (lC (ME.str (j:=19) rfl) (lC (ME.str (j:=21) rfl) (lC (ME.str (j:=15) rfl) ML.nil rfl) rfl) rfl) rfl) (eF hK (gO hK hl hF) (lC (eC 3 rfl) (lC ME.int ML.nil rfl) rfl) rfl rfl rfl)) (lC (ME.cmp (im bp) rfl (eF hK (gO hK hl hF) (lC (eC 3 rfl) (lC ME.int ML.nil rfl) rfl) rfl rfl rfl) ME.int) ML.nil rfl) rfl) rfl)) (F8.cons (r0 rfl rfl (gC 2 rfl) (ME.comp1 (fs:=[("hand",3),("row",2)]) (rest:=[("k",false)]) FU (.of rfl rfl) rfl rfl (MI.any (eB MV.range (mW hK rfl) bI.type (lC (eB MV.len (cR hK rfl) bI.builtin (lC (eC 2 rfl) ML.nil rfl) rfl) ML.nil rfl) rfl)) (gL 2 rfl) iP.nil (ME.ifExp (MT.boolOp (MA.consAnd (tC oG (eL 2 rfl) ME.int rfl) (MA.consAnd (tC (im bp) (eF hK (gO hK hl hF) (lC (eC 0 rfl) (lC ME.int ML.nil rfl) rfl) rfl rfl rfl) ME.int rfl) MA.nilAnd))) (bj bp rfl (eC 1 rfl) (eF hK (gO hK hl hF) (lC (eC 0 rfl) (lC (eB MV.len (cR hK rfl) bI.builtin (lC (eC 1 rfl) ML.nil rfl) rfl) ML.nil rfl) rfl) rfl rfl rfl)) (bj bp rfl (eC 1 rfl) (eL 2 rfl))))) F8.nil))) ?_ hA ?_
 ·intro vs hv
  obtain⟨a,rfl⟩:=G7 hv
  rfl
 ·refine S1.assign rfl rfl rfl (c9 rfl (DE hK rfl rfl ⟨Gx hK rfl,SL.cons rfl (SE.local rfl rfl rfl (SL.nil (JO hK _ _ _ _ hz hc (aW (Z (N rfl:2<=18) hd)) ?_)))⟩))
  refine SG.cell rfl rfl rfl ⟨rfl,?_,?_⟩
  ·exact⟨⟨_,rfl,rfl⟩,⟨_,rfl,rfl⟩,⟨_,rfl,rfl⟩,⟨_,rfl,rfl⟩,rfl,rfl,rfl,rfl,rfl,rfl,rfl,rfl,rfl,rfl,trivial⟩
  ·unfold D3
   rw[dr,e9,e9,e9,e9,e9,e9,e9]
   rfl
 ·intro W' l' env' s' hsc hcm hdd he hk
  obtain⟨o,mv,rfl,hk⟩:=CS hk
  obtain⟨i,js,hk,hsub⟩:=FG (P:=C.w.params) (xs:=script.take 40) (cs:=fC script) (tb:=false) (od:=false) hk
  unfold okA at hk
  rw[aZ] at hk
  obtain⟨ho,hr⟩:=hk
  obtain⟨r,hr1,hr2⟩:=eu.mp hr
  obtain rfl:r=js:=eq_of_beq hr2
  obtain⟨m1,m2⟩:=Cj r hr1
  obtain⟨tb,js',m1,m2⟩:∃tb js',js'∈tu/\r.map (j3 false)=js'.map (j3 tb):=⟨_,_,m1,m2⟩
  have ht:∃(od:Bool)(t:TV),t∈[TV.val 0,TV.str 21]/\t.deno (GV C.w.params (jL (script.take 40) (fC script) i tb od))=(TV.str o).deno (GV C.w.params (jL (script.take 40) (fC script) 0 false false)):=by
   rw[nv,nv] at ho
   rcases ho with (ho | ho) | ho
   ·obtain rfl:=eq_of_beq ho
    exact⟨false,.val 0,.head _,rfl⟩
   ·obtain rfl:=eq_of_beq ho
    refine⟨false,.str 21,.tail _ (.head _),?_⟩
    show some (V.str (j3 tb 21))=some (V.str (j3 false 21))
    cases tb<;>rfl
   ·obtain rfl:=eq_of_beq ho
    exact⟨true,.val 0,.head _,rfl⟩
  obtain⟨od,t,ht,e⟩:=ht
  obtain⟨hn,hg⟩:=hsub tb od js' m2
  have hBB:=hB t ht mv js' m1 _ (uK (fC script) i (m:=2) (by decide))
  have hF:=K1 (fC script) i
  refine SS.sub hn hg ?_
  refine MS.use (n:=17) (ns:=Li) (r:=D8 (FB (kN (fC script) i 2))) ?_ hsc hcm hdd (CR e he) hBB λf l'' σ'' q=>?_
  ·exact(MS.cons (aS (gz rfl rfl (jT.cons rfl (gL 6 rfl) (jT.cons rfl (gL 7 rfl) (jT.cons rfl (gL 8 rfl) jT.nil)))) (ME.tup (lC (ME.tup (lC (ME.str (j:=3) rfl) ML.nil rfl) rfl) (lC (ME.tup (lC (ME.str (j:=4) rfl) ML.nil rfl) rfl) (lC (ME.tup (lC (ME.str (j:=5) rfl) ML.nil rfl) rfl) ML.nil rfl) rfl) rfl) rfl) rfl rfl) (MS.cons (aS (gL 9 rfl) (ME.cls (lS hK) (N rfl) (Et hK) rfl (by rw[hK]; rfl) rfl rfl (lC (ME.str (j:=12) rfl) (lC (ME.tup (lC (ME.str (j:=1) rfl) (lC (ME.tup (lC (ME.str (j:=1) rfl) (lC (eL 6 rfl) (lC (eL 7 rfl) ML.nil rfl) rfl) rfl) rfl) (lC (eL 8 rfl) ML.nil rfl) rfl) rfl) rfl) (lC (ME.tup (lC (ME.str (j:=1) rfl) (lC (eL 6 rfl) (lC (ME.tup (lC (ME.str (j:=1) rfl) (lC (eL 7 rfl) (lC (eL 8 rfl) ML.nil rfl) rfl) rfl) rfl) ML.nil rfl) rfl) rfl) rfl) (lC (ME.tup ML.nil rfl) ML.nil rfl) rfl) rfl) rfl)) rfl rfl) (MS.cons (aS (gL 10 rfl) (ME.list (lC (ME.cls (lS hK) (N rfl) (Et hK) rfl (by rw[hK]; rfl) rfl rfl (lC (ME.str (j:=20) rfl) (lC (ME.tup (lC (ME.str (j:=1) rfl) (lC (eL 6 rfl) (lC (eL 7 rfl) ML.nil rfl) rfl) rfl) rfl) (lC (ME.tup (lC (ME.str (j:=1) rfl) (lC (eL 7 rfl) (lC (eL 6 rfl) ML.nil rfl) rfl) rfl) rfl) (lC (ME.tup ML.nil rfl) ML.nil rfl) rfl) rfl) rfl)) (lC (eL 9 rfl) ML.nil rfl) rfl) rfl) rfl rfl) (MS.cons (aS (gC 1 rfl) (ME.cls (qY hK) (N rfl) (Jm hK) rfl (by rw[hK]; rfl) rfl rfl ML.nil) rfl rfl) (MS.cons (M1.expr rfl (eM (yQ hK 6) (qG hK) (eC 1 rfl) (lC (eF hK (vm hK hl hF) (lC (eC 3 rfl) (lC (eC 2 rfl) ML.nil rfl) rfl) rfl rfl rfl) ML.nil rfl) rfl λJ=>rfl)) (MS.cons (aS (gC 0 rfl) (ME.cls (oM hK) (N rfl) (Jo hK) rfl (by rw[hK]; rfl) rfl rfl (lC (eC 1 rfl) (lC (ME.ifExp (MT.val rfl (eL 5 rfl)) (ME.rev (eL 10 rfl)) (eL 10 rfl)) (lC (DL rfl (ME.str (j:=14) rfl) (eL 4 rfl)) ML.nil rfl) rfl) rfl)) rfl rfl) (MS.cons (M1.ifS (tC (nE bp) (eM (vp hK) (t4 hK) (eC 0 rfl) ML.nil rfl λJ=>rfl) (ME.str (j:=18) rfl) rfl) (MS.cons (M1.ret ME.bool) MS.nil) MS.nil) (MS.cons (aS (gL 11 rfl) (lF bp (fV hK rfl) (qg hK rfl) rfl (eC 2 rfl)) rfl rfl) (MS.cons (aS (gL 12 rfl) (eB MV.tuple (gm hK rfl) bI.type (lC (ME.comp1 (fs:=[("row",2)]) (rest:=[("leaf",false)]) FU (.of rfl rfl) rfl rfl (MI.any (eL 11 rfl)) (gL 1 rfl) iP.nil (cn (t:=.list) rfl (MV.count bp) ua rfl (λJ=>rfl) (eC 0 rfl) (lC (eL 1 rfl) ML.nil rfl))) ML.nil rfl) rfl) rfl rfl) (MS.cons (M1.ifS (MT.not (MT.val rfl (eF hK (mt hK) (lC (eC 1 rfl) (lC (eL 11 rfl) (lC (eL 12 rfl) ML.nil rfl) rfl) rfl) rfl rfl rfl))) (MS.cons (M1.ret ME.bool) MS.nil) MS.nil) (MS.cons (M1.comp1 (fs:=[("heap_now",1)]) (rest:=[("k",false)]) FU (.of rfl rfl) rfl rfl rfl rfl rfl (MI.any (fA (xI hK) (eC 1 rfl) λJ J=>rfl)) (gL 1 rfl) (gV (tC (im bp) (bj bp rfl (bj bp rfl (bj bp rfl (fA (sV hK) (eC 0 rfl) λJ J=>rfl) (eL 1 rfl)) ME.int) ME.int) (ME.str (j:=17) rfl) rfl)) (eL 1 rfl)) (MS.cons (M1.ifS (tC (nE bp) (eB MV.sum (qf hK rfl) bI.builtin (lC (ME.comp1 (fs:=[]) (rest:=[("late",false)]) FU (.of rfl rfl) rfl rfl (MI.any (fA (po hK) (eC 0 rfl) λJ J=>rfl)) (gL 0 rfl) iP.nil (bj bp rfl (eL 0 rfl) ME.int)) ML.nil rfl) rfl) (eB MV.len (cR hK rfl) bI.builtin (lC (eL 13 rfl) ML.nil rfl) rfl) rfl) (MS.cons (M1.ret ME.bool) MS.nil) MS.nil) (MS.cons (M1.ret (ME.cmp (im bp) rfl (ME.comp1 (fs:=[("runner",0)]) (rest:=[("late",false)]) FU (.of rfl rfl) rfl rfl (MI.any (fA (po hK) (eC 0 rfl) λJ J=>rfl)) (gL 1 rfl) (gV (MT.boolOp (MA.consAnd (tC (im bp) (bj bp rfl (eL 1 rfl) ME.int) (ME.bin MB.sub (fA (iX hK) (eC 0 rfl) λJ J=>rfl) ME.int) rfl) (MA.consAnd (tC oG (bj bp rfl (eL 1 rfl) ME.int) ME.int rfl) MA.nilAnd)))) (eL 1 rfl)) (ME.list ML.nil rfl))) MS.nil)))))))))))))
  cases f with
  | next=>obtain⟨_,_,_,_,e⟩:=q; exact nt e
  | ret d=>obtain⟨v,s,e1,_,e2⟩:=q; rw[e1,JA e2]; rfl
  | brk=>exact q.elim
  | cont=>exact q.elim
theorem DP{P:Params}{h:Heap}{g:ac}{ks:List Int}:∀{vs:List Value},WellAll P h vs (ofPys (ks.map K5))->d0 g (ks.map V.int) vs:=by
 induction ks with
 | nil=>exact @λJ w=>by cases w; rfl
 | cons k r ih=>
  intro _ w
  cases w with
  | cons a b=>cases a with
   | int i t=>exact bX _ _ rfl ⟨t,rfl⟩ (ih b)
noncomputable def KU(prog:Program)(w:World)(aQ:Shared)(mg mb:Str->Option Value)(loose:List Str):Cx where
 prog:=prog
 w:=w
 H0:=ghostOf aQ.heap []
 K:=KF w.params
 os:=aQ.os
 top:=topProg
 loose:=loose
 mg:=mg
 mb:=mb
noncomputable def rq(lst:Addr)(o:Obj):ac:=λa=>if a=lst then .froz o else .free
theorem I5(G:b6)(i:Nat):(s0.den G).get i=none:=by
 show Tr.sto G .e i=none
 unfold Tr.sto
 split
 ·rfl
 ·rw[iT]; rfl
theorem DX{h:Heap}:TabsAt ([]:List (Addr×Addr)) h:=λJ hq=>nomatch hq
theorem Jz{prog p:Program}{w:World}{aQ:Shared}{mg mb:Str->Option Value}{loose:List Str}{mean:ExcName->Option Value}(X:(KF w.params).In aQ.heap)(T:Top p loose mean mg mb aQ.heap)
  (hg:aQ.gens=#[]){lst:Addr}{ks:List Int}(wl:Well w.params aQ.heap (.ref lst) (ofPy (.list (ks.map .int))))(hk:ks.length<=63)
  (hA:vD FA v8 D3 wb (λJ J=>false)=true)(hB:∀t∈[TV.val 0,TV.str 21],∀mv,∀js∈tu,∀br,br<2->fM t mv js br=true) :
  codeAny (model prog w) callerA (.call (.ref 617) ⟨[.ref lst],[]⟩) (λr s'=>(∃v,r=.ok (.ret v)/\v=.bool true)/\(∀b o,(ghostOf aQ.heap []).get? b=some o->s'.heap.get? b=some o)/\s'.os=aQ.os/\s'.gens=#[]/\GrownAll [] s'.heap) aQ:=by
 obtain⟨vs,hlst,hws⟩:∃vs:List Value,aQ.heap.get? lst=some (aR vs 0)/\WellAll w.params aQ.heap vs (ofPys (ks.map K5)):=by
  cases wl with
  | list h1 h2=>exact a0 _ h1 h2
 have hK0:=ghost_K (tabs:=[]) DX X (by rfl)
 have hTg:=ghost_top (tabs:=[]) DX T
 have hTr:=topRead_of hTg
 obtain⟨C,hC⟩:∃C,C=KU prog w aQ mg mb (loose++(recsOf p).map (·.name)++(litsOf p).map (·.1)++(clssOf p loose).map (·.name)):=⟨_,rfl⟩
 have ok:C.Ok:=by
  subst hC
  refine⟨hK0,hTr,617,by decide,?_⟩
  have e:=hK0 617 _ rfl
  show(ghostOf aQ.heap []).get? 617≠ax
  rw[e]; exact λh=>by cases h
 have hH0:C.H0=ghostOf aQ.heap []:=by rw[hC]; rfl
 have hKC:C.K=KF C.w.params:=by rw[hC]; rfl
 have R:∀G,bV C (rq lst (aR vs 0)) (s0.den G) aQ:=λG=>by
  refine⟨ok,λb o e=>?_,λa ha=>?_,λa ha=>?_,λa o ha=>?_,λa o ha=>?_,λa m ha=>?_,λa b i ha hb=>?_,λa i ha=>?_,λa i ha=>?_,λi o hi=>?_,hg,by rw[hC]; rfl⟩
  ·rw[hH0] at e; exact of_hideAll _ e
  ·unfold rq at ha
   split at ha
   ·rename_i h; exact⟨_,h▸hlst⟩
   ·exact absurd rfl ha
  ·unfold rq
   split
   ·exact .inl ⟨_,rfl⟩
   ·exact .inr rfl
  ·unfold rq at ha
   split at ha
   ·rename_i h; cases ha; exact h▸hlst
   ·cases ha
  ·unfold rq at ha
   split at ha<;>cases ha
  ·unfold rq at ha
   split at ha<;>cases ha
  ·unfold rq at ha
   split at ha<;>cases ha
  ·unfold rq at ha
   split at ha<;>cases ha
  ·unfold rq at ha
   split at ha<;>cases ha
  ·rw[I5] at hi; cases hi
 have A:Ar (rq lst (aR vs 0)) 30 true callerA:=⟨by decide,by decide,λJ=>rfl,(a0 [] rfl (λe he=>by cases he)),rfl⟩
 have hCM:C.M=model prog w:=by rw[hC]; rfl
 have main:=Jy hKC (script:=ks) (Z hk (by simp)) (W:=⟨default,[],30,true,ax⟩) rfl (by simp) hA hB
  (rq lst (aR vs 0)) callerA 0 aQ (.ref 617) [.ref lst] (R _) A rfl (bX _ _ rfl ⟨lst,vs,0,rfl,by simp[rq],DP hws⟩ rfl)
 rw[hCM] at main
 refine codeAny_mono main λr s' z=>?_
 cases r with
 | error e=>exact z.elim
 | ok fl=>
  cases fl with
  | ret v=>
   obtain⟨d,g',σ',x,R',hv,hd⟩:=z
   subst hd
   obtain rfl:v=.bool true:=hv
   exact⟨(a0 _ rfl rfl),λb o e=>R'.base b o (by rw[hH0]; exact e),by rw[R'.os,hC]; rfl,R'.gens,trivial⟩
  | _=>exact z.elim
theorem G8{prog:Program}{w:World}{aQ:Shared}{f:Value}{vs:List Value}{cw:ClaimW}{cl:Str->Option Addr}{mean:ExcName->Option Value}{args:List WData}{tabs:List (Addr×Addr)}(hT:TabsAt tabs aQ.heap)(hr:∀a x,cw.raises a x=false)(hpost:cw.post args (.bool true) args=true)
  (h1:codeAny (model prog w) callerA (.call f ⟨vs,[]⟩) (λr s'=>(∃v,r=.ok (.ret v)/\v=.bool true)/\(∀b o,(ghostOf aQ.heap tabs).get? b=some o->s'.heap.get? b=some o)/\s'.os=aQ.os/\s'.gens=#[]/\GrownAll tabs s'.heap) aQ) :
  wpAny (model prog w) callerA (call f vs) (λv s'=>GoodWG cw cl mean args aQ (.ok (.ret v)) s') (λe s'=>GoodWG cw cl mean args aQ (.error e) s') aQ:=by
 have h2:codeAny (model prog w) callerA (.call f ⟨vs,[]⟩) (GoodWG cw cl mean args aQ) aQ:=kn_post hT hr (codeAny_mono h1 λr s' ⟨⟨v,hr',hv⟩,hk,hos,hgn,hgr⟩=>
  ⟨⟨.inl (m35 v (.bool true) [] hr' (λc=>hr args c) (hv▸ReadsW.bool true) hpost (λJ=>⟨JZ,λa ha=>by cases ha⟩)),hk,hos,hgn⟩,hgr⟩)
 refine wpAny_call (codeAny_mono h2 λr s' z=>?_)
 cases r with
 | error e=>exact z
 | ok fl=>
  cases fl with
  | ret v=>exact z
  | _=>rcases z.1 with ⟨_,_,_,e,_⟩ | ⟨_,_,_,e,_⟩<;>cases e
theorem evA:vD FA v8 D3 wb (λ_ _=>false)=true:=by decide+kernel
theorem CI:fM (TV.val 0) false [6,6] 0=true:=by decide+kernel
theorem CH:fM (TV.val 0) false [6,6] 1=true:=by decide+kernel
theorem CG:fM (TV.val 0) false [6,8] 0=true:=by decide+kernel
theorem CF:fM (TV.val 0) false [6,8] 1=true:=by decide+kernel
theorem zQ:fM (TV.val 0) false [6,6,6] 0=true:=by decide+kernel
theorem zP:fM (TV.val 0) false [6,6,6] 1=true:=by decide+kernel
theorem zO:fM (TV.val 0) false [6,6,8] 0=true:=by decide+kernel
theorem zN:fM (TV.val 0) false [6,6,8] 1=true:=by decide+kernel
theorem zM:fM (TV.val 0) false [6,8,6] 0=true:=by decide+kernel
theorem zL:fM (TV.val 0) false [6,8,6] 1=true:=by decide+kernel
theorem zK:fM (TV.val 0) false [6,8,8] 0=true:=by decide+kernel
theorem zJ:fM (TV.val 0) false [6,8,8] 1=true:=by decide+kernel
theorem zI:fM (TV.val 0) false [6,8,9] 0=true:=by decide+kernel
theorem zH:fM (TV.val 0) false [6,8,9] 1=true:=by decide+kernel
theorem zG:fM (TV.val 0) false [6,9,8] 0=true:=by decide+kernel
theorem zF:fM (TV.val 0) false [6,9,8] 1=true:=by decide+kernel
theorem CE:fM (TV.val 0) true [6,6] 0=true:=by decide+kernel
theorem CD:fM (TV.val 0) true [6,6] 1=true:=by decide+kernel
theorem CC:fM (TV.val 0) true [6,8] 0=true:=by decide+kernel
theorem CB:fM (TV.val 0) true [6,8] 1=true:=by decide+kernel
theorem zE:fM (TV.val 0) true [6,6,6] 0=true:=by decide+kernel
theorem zD:fM (TV.val 0) true [6,6,6] 1=true:=by decide+kernel
theorem zC:fM (TV.val 0) true [6,6,8] 0=true:=by decide+kernel
theorem zB:fM (TV.val 0) true [6,6,8] 1=true:=by decide+kernel
theorem zA:fM (TV.val 0) true [6,8,6] 0=true:=by decide+kernel
theorem zz:fM (TV.val 0) true [6,8,6] 1=true:=by decide+kernel
theorem zy:fM (TV.val 0) true [6,8,8] 0=true:=by decide+kernel
theorem zx:fM (TV.val 0) true [6,8,8] 1=true:=by decide+kernel
theorem zw:fM (TV.val 0) true [6,8,9] 0=true:=by decide+kernel
theorem zu:fM (TV.val 0) true [6,8,9] 1=true:=by decide+kernel
theorem zt:fM (TV.val 0) true [6,9,8] 0=true:=by decide+kernel
theorem zs:fM (TV.val 0) true [6,9,8] 1=true:=by decide+kernel
theorem CQ:fM (TV.str 21) false [6,6] 0=true:=by decide+kernel
theorem CP:fM (TV.str 21) false [6,6] 1=true:=by decide+kernel
theorem CO:fM (TV.str 21) false [6,8] 0=true:=by decide+kernel
theorem CN:fM (TV.str 21) false [6,8] 1=true:=by decide+kernel
theorem Al:fM (TV.str 21) false [6,6,6] 0=true:=by decide+kernel
theorem Ak:fM (TV.str 21) false [6,6,6] 1=true:=by decide+kernel
theorem Aj:fM (TV.str 21) false [6,6,8] 0=true:=by decide+kernel
theorem Ai:fM (TV.str 21) false [6,6,8] 1=true:=by decide+kernel
theorem Ah:fM (TV.str 21) false [6,8,6] 0=true:=by decide+kernel
theorem Ag:fM (TV.str 21) false [6,8,6] 1=true:=by decide+kernel
theorem Af:fM (TV.str 21) false [6,8,8] 0=true:=by decide+kernel
theorem Ae:fM (TV.str 21) false [6,8,8] 1=true:=by decide+kernel
theorem Ad:fM (TV.str 21) false [6,8,9] 0=true:=by decide+kernel
theorem Ac:fM (TV.str 21) false [6,8,9] 1=true:=by decide+kernel
theorem Ab:fM (TV.str 21) false [6,9,8] 0=true:=by decide+kernel
theorem Aa:fM (TV.str 21) false [6,9,8] 1=true:=by decide+kernel
theorem CM:fM (TV.str 21) true [6,6] 0=true:=by decide+kernel
theorem CL:fM (TV.str 21) true [6,6] 1=true:=by decide+kernel
theorem CK:fM (TV.str 21) true [6,8] 0=true:=by decide+kernel
theorem CJ:fM (TV.str 21) true [6,8] 1=true:=by decide+kernel
theorem z9:fM (TV.str 21) true [6,6,6] 0=true:=by decide+kernel
theorem z4:fM (TV.str 21) true [6,6,6] 1=true:=by decide+kernel
theorem z0:fM (TV.str 21) true [6,6,8] 0=true:=by decide+kernel
theorem zZ:fM (TV.str 21) true [6,6,8] 1=true:=by decide+kernel
theorem zY:fM (TV.str 21) true [6,8,6] 0=true:=by decide+kernel
theorem zX:fM (TV.str 21) true [6,8,6] 1=true:=by decide+kernel
theorem zW:fM (TV.str 21) true [6,8,8] 0=true:=by decide+kernel
theorem zV:fM (TV.str 21) true [6,8,8] 1=true:=by decide+kernel
theorem zU:fM (TV.str 21) true [6,8,9] 0=true:=by decide+kernel
theorem zT:fM (TV.str 21) true [6,8,9] 1=true:=by decide+kernel
theorem zS:fM (TV.str 21) true [6,9,8] 0=true:=by decide+kernel
theorem zR:fM (TV.str 21) true [6,9,8] 1=true:=by decide+kernel
theorem Le{P:List Nat->Nat->Prop}(a:P [6,6] 0)(a':P [6,6] 1)(b:P [6,8] 0)(b':P [6,8] 1)(c:P [6,6,6] 0)(c':P [6,6,6] 1)(d:P [6,6,8] 0)(d':P [6,6,8] 1)(e:P [6,8,6] 0)(e':P [6,8,6] 1)
  (f:P [6,8,8] 0)(f':P [6,8,8] 1)(g:P [6,8,9] 0)(g':P [6,8,9] 1)(h:P [6,9,8] 0)(h':P [6,9,8] 1):∀js∈tu,∀br,br<2->P js br:=by
 have two:∀{js:List Nat},P js 0->P js 1->∀br,br<2->P js br:=λh0 h1 br hb=>by
  match br,hb with
  | 0,_=>exact h0
  | 1,_=>exact h1
 intro js hj
 unfold tu at hj
 simp only[aE,HM,or_false] at hj
 rcases hj with rfl | rfl | rfl | rfl | rfl | rfl | rfl | rfl
 ·exact two a a'
 ·exact two b b'
 ·exact two c c'
 ·exact two d d'
 ·exact two e e'
 ·exact two f f'
 ·exact two g g'
 ·exact two h h'
theorem KQ:∀t∈[TV.val 0,TV.str 21],∀mv,∀js∈tu,∀br,br<2->fM t mv js br=true:=by
 intro t ht mv
 simp only[aE,HM,or_false] at ht
 rcases ht with rfl | rfl<;>cases mv
 ·exact Le (P:=λjs br=>fM _ _ js br=true) CI CH CG CF zQ zP zO zN zM zL zK zJ zI zH zG zF
 ·exact Le (P:=λjs br=>fM _ _ js br=true) CE CD CC CB zE zD zC zB zA zz zy zx zw zu zt zs
 ·exact Le (P:=λjs br=>fM _ _ js br=true) CQ CP CO CN Al Ak Aj Ai Ah Ag Af Ae Ad Ac Ab Aa
 ·exact Le (P:=λjs br=>fM _ _ js br=true) CM CL CK CJ z9 z4 z0 zZ zY zX zW zV zU zT zS zR
set_option Elab.async true
namespace main
abbrev T:=True
theorem t:T:=.intro
theorem tw15813965126469659277:T:=t
theorem tw9149475249158978189:T:=t
theorem tw12930125569691871565:T:=t
theorem tw4703324592164959565:T:=t
theorem tw7548181410930959757:T:=t
theorem tw15968590688784803213:T:=t
theorem tw4878024195029292589:T:=t
theorem tw3107410153937982541:T:=t
theorem tw11874431644581681229:T:=t
theorem tw11443288096424721517:T:=t
theorem tw8074177808019917933:T:=t
theorem tw17065865279493038221:T:=t
theorem tw2379228892226148013:T:=t
theorem tw3059808732461744397:T:=t
theorem tw10385684711634392909:T:=t
theorem tw15163031477218665325:T:=t
theorem tw1745101480760909229:T:=t
theorem tw5902712137599589837:T:=t
theorem tw3879943568281281997:T:=t
theorem tw2928028564007261197:T:=t
theorem tw15744198569236010029:T:=t
theorem tw2818215913512838189:T:=t
theorem tw12127353596698212756:T:=t
theorem tw10934798296316075956:T:=t
theorem tw15886878293761681940:T:=t
theorem tw16300817170888368660:T:=t
theorem tw5840107092408520212:T:=t
theorem tw12493883692557333044:T:=t
theorem tw1769571156964328020:T:=t
theorem tw9439839186583959700:T:=t
theorem tw16239573490109993236:T:=t
theorem tw8598726330529460532:T:=t
theorem tw12184192518910918996:T:=t
theorem tw15119470463916845940:T:=t
theorem tw11390707721571460980:T:=t
theorem tw12254554216366044628:T:=t
theorem tw7733012006603144692:T:=t
theorem tw1078662318413408276:T:=t
theorem tw16747871750915486772:T:=t
theorem tw7380543148635903028:T:=t
theorem tw15340121470348793460:T:=t
theorem tw15346822135443404404:T:=t
theorem tw2178821199819612820:T:=t
theorem tw12724878309271642292:T:=t
theorem tw2443227327843618036:T:=t
theorem tw9690013620090670815:T:=t
theorem tw13105467095038062303:T:=t
theorem tw833366181672599839:T:=t
theorem tw6514835930273931583:T:=t
theorem tw12866327798292885407:T:=t
theorem tw15349743947800654751:T:=t
theorem tw11547382934132139519:T:=t
theorem tw2528932580032954879:T:=t
theorem tw571647785228454943:T:=t
theorem tw15525705244753957535:T:=t
theorem tw8372432500344545951:T:=t
theorem tw13612386364232354495:T:=t
theorem tw10871293036084005087:T:=t
theorem tw13580096092930110239:T:=t
theorem tw3306849197303780159:T:=t
theorem tw4592004706911863615:T:=t
theorem tw11391020510418979679:T:=t
theorem tw17189560309898352479:T:=t
theorem tw5818237970382791039:T:=t
theorem tw13613844423972651391:T:=t
theorem tw9639872857315793279:T:=t
theorem tw12235109030325827999:T:=t
theorem tw18303307991560051295:T:=t
theorem tw6756261132437940486:T:=t
theorem tw14121201860285194534:T:=t
theorem tw11287953397327612774:T:=t
theorem tw9369852123599154598:T:=t
theorem tw9493952402113393094:T:=t
theorem tw17145312859027392966:T:=t
theorem tw7740549551543926822:T:=t
theorem tw13977479495569725478:T:=t
theorem tw7898563742332601926:T:=t
theorem tw8776703023565459014:T:=t
theorem tw8262367462955680934:T:=t
theorem tw8132178498146976934:T:=t
theorem tw13096562468588436678:T:=t
theorem tw10938402098977778470:T:=t
theorem tw6186417409476823366:T:=t
theorem tw1112963673480286534:T:=t
theorem tw7924682654823194982:T:=t
theorem tw18277887891688102822:T:=t
theorem tw5285835780437746150:T:=t
theorem tw14852706074398868582:T:=t
theorem tw18371382607465720849:T:=t
theorem tw14627560896615758001:T:=t
theorem tw1391527577248789681:T:=t
theorem tw15268511505221204785:T:=t
theorem tw7002617117321725329:T:=t
theorem tw5267375287539190161:T:=t
theorem tw14279578667054351857:T:=t
theorem tw5142021981082635793:T:=t
theorem tw12291804085094793745:T:=t
theorem tw1897650600844092497:T:=t
theorem tw11807584938254393009:T:=t
theorem tw3563127853227517201:T:=t
theorem tw16203443089297424273:T:=t
theorem tw7566708949256337297:T:=t
theorem tw2689936240190302673:T:=t
theorem tw15893691471082726865:T:=t
theorem tw1426165739836719336:T:=t
theorem tw8543199408427174664:T:=t
theorem tw1623195853881501448:T:=t
theorem tw14368548984795427624:T:=t
theorem tw12055929568288920360:T:=t
theorem tw9144134622846900584:T:=t
theorem tw9075827205167002984:T:=t
theorem tw2072994404298036584:T:=t
theorem tw7896732557465485704:T:=t
theorem tw6819746189605800328:T:=t
theorem tw7821556884541040040:T:=t
theorem tw13435976712825821128:T:=t
theorem tw14875908822023813064:T:=t
theorem tw5942491169022655432:T:=t
theorem tw8279419025547153352:T:=t
theorem tw11648469112263746088:T:=t
theorem tw9272406366132598344:T:=t
theorem tw15073143240194224712:T:=t
theorem tw8440722530245238888:T:=t
theorem tw4159460275628221608:T:=t
theorem tw11930365855874596552:T:=t
theorem tw10440920105907014920:T:=t
theorem tw13150642230695257992:T:=t
theorem tw14070985297238078344:T:=t
theorem tw15159490273619958664:T:=t
theorem tw2069051144779121576:T:=t
theorem tw7646987749624205320:T:=t
theorem tw4009994885309246536:T:=t
theorem tw7462917681035090600:T:=t
theorem tw3678926922749915011:T:=t
theorem tw3379733461541436291:T:=t
theorem tw15250807170023008163:T:=t
theorem tw4094807246124668419:T:=t
theorem tw16365892746055586307:T:=t
theorem tw3357517921695852611:T:=t
theorem tw17393246987506242659:T:=t
theorem tw9432906754913100419:T:=t
theorem tw15443453874323421859:T:=t
theorem tw10309699142624141507:T:=t
theorem tw8810294567309271235:T:=t
theorem tw17370264474060839139:T:=t
theorem tw6429686504428160259:T:=t
theorem tw15220798369095227235:T:=t
theorem tw2633433360531680643:T:=t
theorem tw5197162745757122531:T:=t
theorem tw5053277156089862147:T:=t
theorem tw16053404413617535587:T:=t
theorem tw16891615732304830211:T:=t
theorem tw8674768394056432931:T:=t
theorem tw8392590704064552474:T:=t
theorem tw12611677305408334490:T:=t
theorem tw783142212168057530:T:=t
theorem tw12967587422831333594:T:=t
theorem tw13866156564276429082:T:=t
theorem tw7064039134278724442:T:=t
theorem tw8019843255630367578:T:=t
theorem tw8354859942247524186:T:=t
theorem tw17775395293607656282:T:=t
theorem tw5054592681714628026:T:=t
theorem tw12112399904496239578:T:=t
theorem tw18350620168412646394:T:=t
theorem tw12266321265796822618:T:=t
theorem tw7689180539567665754:T:=t
theorem tw13422413300997963514:T:=t
theorem tw18270773166306141978:T:=t
theorem tw4153403021248529786:T:=t
theorem tw12985563455672729498:T:=t
theorem tw10278875301165399962:T:=t
theorem tw2925776425995894714:T:=t
theorem tw4357975833179775930:T:=t
theorem tw4433602467837400570:T:=t
theorem tw6271459789768422213:T:=t
theorem tw14522938668971434885:T:=t
theorem tw11601682451327219109:T:=t
theorem tw1605168168120692133:T:=t
theorem tw15823801904750430661:T:=t
theorem tw15641333041124299813:T:=t
theorem tw7079346319486233637:T:=t
theorem tw11032920973336576581:T:=t
theorem tw11913848286851280485:T:=t
theorem tw7379146703158643333:T:=t
theorem tw15743930626855181957:T:=t
theorem tw14955899357275167909:T:=t
theorem tw14417502097949002917:T:=t
theorem tw1038547464879363397:T:=t
theorem tw5022756136425776485:T:=t
theorem tw1860108991126048101:T:=t
theorem tw17391922875715332485:T:=t
theorem tw9420458945464693125:T:=t
theorem tw3539627628400702853:T:=t
theorem tw9441134871347383685:T:=t
theorem tw10443595952217078693:T:=t
theorem tw836902708638354373:T:=t
theorem tw15272384756033816549:T:=t
theorem tw16427579589696508901:T:=t
theorem tw13670416772910508549:T:=t
theorem tw6707823426313396741:T:=t
theorem tw1403793049032158309:T:=t
theorem tw17045747750064514181:T:=t
theorem tw17781153961316730533:T:=t
theorem tw10678755418281806533:T:=t
theorem tw12793961455207843180:T:=t
theorem tw4239280963099970540:T:=t
theorem tw12028935686920467596:T:=t
theorem tw13750510376383286988:T:=t
theorem tw738249695139976460:T:=t
theorem tw9271713227684663596:T:=t
theorem tw3408827457947758924:T:=t
theorem tw5460128486308123532:T:=t
theorem tw517253545763640812:T:=t
theorem tw15254020090456207404:T:=t
theorem tw15193263178978695244:T:=t
theorem tw18283768689549374540:T:=t
theorem tw2221555247795474028:T:=t
theorem tw18369451303578182252:T:=t
theorem tw17299735379877282444:T:=t
theorem tw15252723141234360556:T:=t
theorem tw18288797166873144076:T:=t
theorem tw16290095049648921356:T:=t
theorem tw9703312082030273292:T:=t
theorem tw13432973819337260183:T:=t
theorem tw7645214217008657559:T:=t
theorem tw156074481368604375:T:=t
theorem tw7670179019842844407:T:=t
theorem tw14537450019153051991:T:=t
theorem tw6771591437671112567:T:=t
theorem tw15471704449587110807:T:=t
theorem tw867116294927962039:T:=t
theorem tw6649310733610355799:T:=t
theorem tw208914938975835223:T:=t
theorem tw16136933308854893207:T:=t
theorem tw6958343538655003287:T:=t
theorem tw17367629061461438135:T:=t
theorem tw17200071697881280183:T:=t
theorem tw12405428267636687703:T:=t
theorem tw12246392102278154071:T:=t
theorem tw3121664453712097879:T:=t
theorem tw16822983415644169815:T:=t
theorem tw14295980150073339262:T:=t
theorem tw10758804782543124382:T:=t
theorem tw3460471527071742462:T:=t
theorem tw9870349952446189086:T:=t
theorem tw10980123507247645758:T:=t
theorem tw4840266357470665822:T:=t
theorem tw14953484359197247582:T:=t
theorem tw3139610863597827358:T:=t
theorem tw13681261787169959198:T:=t
theorem tw14116783088108353342:T:=t
theorem tw2911433417487810430:T:=t
theorem tw10839992949745929630:T:=t
theorem tw1679806311347427774:T:=t
theorem tw12529423308544993278:T:=t
theorem tw5328005690235735774:T:=t
theorem tw2142373446539770622:T:=t
theorem tw17809477105219444030:T:=t
theorem tw1835169261126040926:T:=t
theorem tw17442377672721089886:T:=t
theorem tw16781784789281860958:T:=t
theorem tw11751638361083799241:T:=t
theorem tw14131743086799626953:T:=t
theorem tw5242006674047390409:T:=t
theorem tw13437355924590775721:T:=t
theorem tw8809643391664033257:T:=t
theorem tw7387095368875260393:T:=t
theorem tw18356235372429024265:T:=t
theorem tw15502279438172492361:T:=t
theorem tw10444647068345236073:T:=t
theorem tw3434899946491226729:T:=t
theorem tw13779700907665231049:T:=t
theorem tw2088574598992667849:T:=t
theorem tw5008847014415012073:T:=t
theorem tw11116706314288256233:T:=t
theorem tw18044547442324722921:T:=t
theorem tw9482223327213914921:T:=t
theorem tw15444968558782299529:T:=t
theorem tw2553129172841505705:T:=t
theorem tw10180515696109083177:T:=t
theorem tw10297972270295956009:T:=t
theorem tw17210249984954947657:T:=t
theorem tw6558027226490960009:T:=t
theorem tw8028819869400628128:T:=t
theorem tw10664740772703261600:T:=t
theorem tw18142968816848271808:T:=t
theorem tw1419027338852513248:T:=t
theorem tw16698058524883723872:T:=t
theorem tw3970840511108476544:T:=t
theorem tw18084886155079811712:T:=t
theorem tw11343196335435003072:T:=t
theorem tw16288059979852645152:T:=t
theorem tw3146034541042422592:T:=t
theorem tw17411139357740151808:T:=t
theorem tw8595304795500500992:T:=t
theorem tw12253984699551225856:T:=t
theorem tw18362417139445994016:T:=t
theorem tw16035636102840645184:T:=t
theorem tw15521857191610671232:T:=t
theorem tw8826075148503451808:T:=t
theorem tw1770443798944706555:T:=t
theorem tw17900695361700684923:T:=t
theorem tw16238430190936666235:T:=t
theorem tw7406679989375695003:T:=t
theorem tw1554912440253531867:T:=t
theorem tw9440510433579211515:T:=t
theorem tw7133214772809181467:T:=t
theorem tw12186387220061091099:T:=t
theorem tw17677493551680049499:T:=t
theorem tw4703118583338301787:T:=t
theorem tw12158052936666111867:T:=t
theorem tw2008451683862899579:T:=t
theorem tw17210058121205660539:T:=t
theorem tw12917821375779496827:T:=t
theorem tw1792248080742510491:T:=t
theorem tw7495849268563445211:T:=t
theorem tw8256147894513522171:T:=t
theorem tw6542570496510093371:T:=t
theorem tw9844532520808570107:T:=t
theorem tw14773280460464934747:T:=t
theorem tw3394368681878965627:T:=t
theorem tw3008196657469156795:T:=t
theorem tw10583265868896537019:T:=t
theorem tw10961362995090299867:T:=t
theorem tw5165179375324350226:T:=t
theorem tw144500467268121906:T:=t
theorem tw13791738579797958002:T:=t
theorem tw2619486844233121682:T:=t
theorem tw1825977663594718130:T:=t
theorem tw10196920075564382162:T:=t
theorem tw798814199508267506:T:=t
theorem tw17008886415857585682:T:=t
theorem tw5522973689866154034:T:=t
theorem tw17344839780428942418:T:=t
theorem tw13120829950233360018:T:=t
theorem tw16191586338647638674:T:=t
theorem tw6312091815898468018:T:=t
theorem tw4351411162792525490:T:=t
theorem tw10046727809161031378:T:=t
theorem tw6502167394331606738:T:=t
theorem tw10328587823670452498:T:=t
theorem tw14766382537209830674:T:=t
theorem tw15564934884189797170:T:=t
theorem tw6524254272908164914:T:=t
theorem tw11209188420962459506:T:=t
theorem tw11646022107631321490:T:=t
theorem tw11481020460698763666:T:=t
theorem tw16624888252642348018:T:=t
theorem tw10560464971613371954:T:=t
theorem tw9077120990456222290:T:=t
theorem tw4840137780045317266:T:=t
theorem tw17924518473618601469:T:=t
theorem tw6093991748022998109:T:=t
theorem tw6795767014284890813:T:=t
theorem tw7784495168435344669:T:=t
theorem tw8571558186958321949:T:=t
theorem tw7118179723604996413:T:=t
theorem tw117865787843134301:T:=t
theorem tw6601557695192066909:T:=t
theorem tw5013185972428660573:T:=t
theorem tw10053362868999418749:T:=t
theorem tw11509008894443506685:T:=t
theorem tw18324848782513282653:T:=t
theorem tw7701843906587010205:T:=t
theorem tw1724344740107316381:T:=t
theorem tw6178081710517948605:T:=t
theorem tw12685957366688819421:T:=t
theorem tw6658326349803785021:T:=t
theorem tw18108192847358647101:T:=t
theorem tw8386956399160234941:T:=t
theorem tw5458665417225551837:T:=t
theorem tw3977090291491947485:T:=t
theorem tw2737031353948269604:T:=t
theorem tw4304834178718691396:T:=t
theorem tw11998975423125869188:T:=t
theorem tw8736997241775733956:T:=t
theorem tw14548371465575333668:T:=t
theorem tw13834035904778713892:T:=t
theorem tw16265700737481640900:T:=t
theorem tw5145756777116517348:T:=t
theorem tw16899061783259940836:T:=t
theorem tw6990565588677296644:T:=t
theorem tw7397454978930948644:T:=t
theorem tw16520570396987882052:T:=t
theorem tw17179648164711320676:T:=t
theorem tw239484914142363780:T:=t
theorem tw14891094757345406116:T:=t
theorem tw14137382522845584548:T:=t
theorem tw6912118498763487492:T:=t
theorem tw15689039764200711428:T:=t
theorem tw5901833263323351908:T:=t
theorem tw3051166587225777028:T:=t
theorem tw17094576705328918404:T:=t
theorem tw16741365473365742500:T:=t
theorem tw11605412728090389508:T:=t
theorem tw4177671621994559311:T:=t
theorem tw15460443108094267759:T:=t
theorem tw18337712513834754415:T:=t
theorem tw3412744423601906063:T:=t
theorem tw12577089576051996047:T:=t
theorem tw757969810983933903:T:=t
theorem tw9767782249887908399:T:=t
theorem tw9177827624657603151:T:=t
theorem tw3267506352983639151:T:=t
theorem tw13681423632140699375:T:=t
theorem tw16672347593970394415:T:=t
theorem tw11651895032536297775:T:=t
theorem tw16614730806028959055:T:=t
theorem tw12456801561626644367:T:=t
theorem tw1901868530813872047:T:=t
theorem tw14494904676204802095:T:=t
theorem tw4261401600855317551:T:=t
theorem tw11188727169584135823:T:=t
theorem tw7074714167717794031:T:=t
theorem tw9718751533352636207:T:=t
theorem tw9329782625190375798:T:=t
theorem tw11923579568519453046:T:=t
theorem tw16218993716828157846:T:=t
theorem tw7313032115926921718:T:=t
theorem tw17079325164956456438:T:=t
theorem tw5963143147677444598:T:=t
theorem tw268157518901931542:T:=t
theorem tw8463454761793374742:T:=t
theorem tw12692181602365165654:T:=t
theorem tw2436066020837621398:T:=t
theorem tw17180643386855433878:T:=t
theorem tw1303870235021155574:T:=t
theorem tw8256231346481361174:T:=t
theorem tw7249698444530863382:T:=t
theorem tw6810670158800780086:T:=t
theorem tw14116258901397501558:T:=t
theorem tw17616163897125503702:T:=t
theorem tw17853243665478741750:T:=t
theorem tw6663807924280617270:T:=t
theorem tw6690834805903392417:T:=t
theorem tw1062289972186488545:T:=t
theorem tw13082016621023770337:T:=t
theorem tw9663910302974732577:T:=t
theorem tw2853208382243579297:T:=t
theorem tw12453483116619877857:T:=t
theorem tw8848428510025427425:T:=t
theorem tw2939239021250373633:T:=t
theorem tw3718984994144165473:T:=t
theorem tw15469547988786640481:T:=t
theorem tw13790279956208770657:T:=t
theorem tw2240190111855364321:T:=t
theorem tw16229319474554376097:T:=t
theorem tw5362711270585421761:T:=t
theorem tw4509215696152744449:T:=t
theorem tw11315334805740100097:T:=t
theorem tw16441979001879675393:T:=t
theorem tw6408195481249254913:T:=t
theorem tw9719202250092448289:T:=t
theorem tw9457166030541056545:T:=t
theorem tw3441466919426651201:T:=t
theorem tw10390374173888912449:T:=t
theorem tw12681416834507466817:T:=t
theorem tw3917075563684514712:T:=t
theorem tw5159528265767506360:T:=t
theorem tw8511639783363027448:T:=t
theorem tw12097270978576341016:T:=t
theorem tw13087847357843552312:T:=t
theorem tw5055280753450627128:T:=t
theorem tw17531500886901724792:T:=t
theorem tw3131981697515881112:T:=t
theorem tw1130109773739384056:T:=t
theorem tw13071795008058428760:T:=t
theorem tw18396120882820736952:T:=t
theorem tw12853229823045751768:T:=t
theorem tw4801019796111996920:T:=t
theorem tw11888923222419618904:T:=t
theorem tw13025341945748906136:T:=t
theorem tw1847531816708478680:T:=t
theorem tw7679138261593991859:T:=t
theorem tw1982642858812592819:T:=t
theorem tw13742246020466748627:T:=t
theorem tw15643031011164770099:T:=t
theorem tw11579708991523040051:T:=t
theorem tw4059333162808307507:T:=t
theorem tw18301661331662831443:T:=t
theorem tw1251932400071406003:T:=t
theorem tw12830911758012122131:T:=t
theorem tw17142218151182921267:T:=t
theorem tw10322969633853836883:T:=t
theorem tw1179163161465106547:T:=t
theorem tw3748819449962869491:T:=t
theorem tw2379418587039239955:T:=t
theorem tw15124233344536562547:T:=t
theorem tw16238369109891383347:T:=t
theorem tw1912606427515319379:T:=t
theorem tw6764186481614323795:T:=t
theorem tw5746062570634479219:T:=t
theorem tw8402233074735576723:T:=t
theorem tw2552694252491474378:T:=t
theorem tw13560165558294956042:T:=t
theorem tw9133342197399196234:T:=t
theorem tw14452046468698080874:T:=t
theorem tw18302860413485724842:T:=t
theorem tw14492489044821966026:T:=t
theorem tw3898492766431878890:T:=t
theorem tw2310633646459873002:T:=t
theorem tw17294303086990883594:T:=t
theorem tw7772104011696148234:T:=t
theorem tw6498212960163673866:T:=t
theorem tw564327466094411562:T:=t
theorem tw16405295038616099146:T:=t
theorem tw10434708572517896522:T:=t
theorem tw16438014652984670090:T:=t
theorem tw8731464644100033418:T:=t
theorem tw15065305084719027114:T:=t
theorem tw13178111602982621130:T:=t
theorem tw9335689295537598954:T:=t
theorem tw5600465124246279690:T:=t
theorem tw6744150564754420234:T:=t
theorem tw16148830795289512010:T:=t
theorem tw3088077927293614186:T:=t
theorem tw5445273990271448714:T:=t
theorem tw1227082755455209162:T:=t
theorem tw5667051821671876906:T:=t
theorem tw12719230891847962442:T:=t
theorem tw16556096624374403914:T:=t
theorem tw2113245724137632618:T:=t
theorem tw11527100260467649386:T:=t
theorem tw5714297817612945589:T:=t
theorem tw631227907748450517:T:=t
theorem tw8628463995273589525:T:=t
theorem tw12853263043071137589:T:=t
theorem tw12903915928643529109:T:=t
theorem tw4125460202920646613:T:=t
theorem tw16744341766133690325:T:=t
theorem tw9069977719596667413:T:=t
theorem tw3256599692197748821:T:=t
theorem tw9620926646237751989:T:=t
theorem tw18027279399861113557:T:=t
theorem tw13525269375820829941:T:=t
theorem tw9248355606524233013:T:=t
theorem tw2434013755359952725:T:=t
theorem tw5903828528775644053:T:=t
theorem tw7904360318250872725:T:=t
theorem tw2219470461308947445:T:=t
theorem tw868957009881194517:T:=t
theorem tw5172733860109081237:T:=t
theorem tw10799424930603608796:T:=t
theorem tw5547628948157381340:T:=t
theorem tw8729215753904597756:T:=t
theorem tw5039935704646711612:T:=t
theorem tw16536999046426117148:T:=t
theorem tw10046393564091023420:T:=t
theorem tw1496641351508231228:T:=t
theorem tw11665721926869280828:T:=t
theorem tw9558001594617236124:T:=t
theorem tw9024921604208487676:T:=t
theorem tw961370681766752028:T:=t
theorem tw15691038990944971580:T:=t
theorem tw8561292540247648604:T:=t
theorem tw13123296091798268284:T:=t
theorem tw13898727854132262300:T:=t
theorem tw3992928203939203036:T:=t
theorem tw11005193663938795516:T:=t
theorem tw13261660738576256540:T:=t
theorem tw565620940243654172:T:=t
theorem tw14312175043190604956:T:=t
theorem tw4187923210075081884:T:=t
theorem tw1734708372850746524:T:=t
theorem tw5765321870980151996:T:=t
theorem tw18243912793331470855:T:=t
theorem tw16859033189492256807:T:=t
theorem tw12719672853640835143:T:=t
theorem tw13538414902891089991:T:=t
theorem tw8874004035559458439:T:=t
theorem tw9794519201099739783:T:=t
theorem tw6759289808592882343:T:=t
theorem tw12476972291821639335:T:=t
theorem tw18218633749651144903:T:=t
theorem tw6467666160085547207:T:=t
theorem tw6498197727744454919:T:=t
theorem tw16903022900691281159:T:=t
theorem tw12428166251546661703:T:=t
theorem tw13889870629125409607:T:=t
theorem tw3146979741847770951:T:=t
theorem tw5992685852653226855:T:=t
theorem tw17023186693513284007:T:=t
theorem tw7945186787910683591:T:=t
theorem tw6471150222350279623:T:=t
theorem tw16525614771705244615:T:=t
theorem tw111125614747484135:T:=t
theorem tw2525166076998268935:T:=t
theorem tw3965608284049720903:T:=t
theorem tw6258868486430859879:T:=t
theorem tw9687061429480002727:T:=t
theorem tw5739019924288605895:T:=t
theorem tw4091930637953755879:T:=t
theorem tw362101514219434311:T:=t
theorem tw14409748654668726151:T:=t
theorem tw7291201710529191399:T:=t
theorem tw15091636007760851431:T:=t
theorem tw16381980959767241870:T:=t
theorem tw13090235224947412142:T:=t
theorem tw15320287906085699310:T:=t
theorem tw4952695281440224590:T:=t
theorem tw10695546567524401486:T:=t
theorem tw13934254615512129870:T:=t
theorem tw6989704343938286478:T:=t
theorem tw17369824525131105166:T:=t
theorem tw2261421588700274638:T:=t
theorem tw1382604328053016238:T:=t
theorem tw2228332982408152750:T:=t
theorem tw3695579603394428622:T:=t
theorem tw9154938123599455950:T:=t
theorem tw2783482774769142606:T:=t
theorem tw5561763199174522734:T:=t
theorem tw6109326565077728654:T:=t
theorem tw12765236646740177294:T:=t
theorem tw7748162344757003694:T:=t
theorem tw1743345963533338969:T:=t
theorem tw14347226246240139161:T:=t
theorem tw14292037427810857913:T:=t
theorem tw2992056685137445369:T:=t
theorem tw111231791877217785:T:=t
theorem tw3692609847910103577:T:=t
theorem tw11822278912455534105:T:=t
theorem tw9776540465710201401:T:=t
theorem tw11910221601743685753:T:=t
theorem tw6171209416164996761:T:=t
theorem tw12872673566709696761:T:=t
theorem tw15901911785326686457:T:=t
theorem tw15218124028859059513:T:=t
theorem tw686864128682677561:T:=t
theorem tw14775469409186757945:T:=t
theorem tw11827359447094427065:T:=t
theorem tw10508552085738395065:T:=t
theorem tw2184172125623563289:T:=t
theorem tw16398902535412932217:T:=t
theorem tw4615647095033124473:T:=t
theorem tw16152042100665958553:T:=t
theorem tw17868245453418582169:T:=t
theorem tw14006705621855905977:T:=t
theorem tw15468000139907181785:T:=t
theorem tw9386645067147707984:T:=t
theorem tw9257701769616213584:T:=t
theorem tw8456221942631779472:T:=t
theorem tw11613439357962438320:T:=t
theorem tw723033567972761296:T:=t
theorem tw16028392598184163056:T:=t
theorem tw9002507580857799536:T:=t
theorem tw2613873015034283888:T:=t
theorem tw17467276233706154064:T:=t
theorem tw1863683800879511184:T:=t
theorem tw13155686724948042960:T:=t
theorem tw18235984252551956240:T:=t
theorem tw4331608280046720368:T:=t
theorem tw17222532714639596944:T:=t
theorem tw8872105718554685360:T:=t
theorem tw8858540271125762992:T:=t
theorem tw18370884914743140272:T:=t
theorem tw3884352726974036912:T:=t
theorem tw12370082323872129008:T:=t
theorem tw9537812907215041040:T:=t
theorem tw4960754326464356880:T:=t
theorem tw12820903949589551787:T:=t
theorem tw18398800829542192811:T:=t
theorem tw99894942109057259:T:=t
theorem tw6357531908561853707:T:=t
theorem tw1976350527869358923:T:=t
theorem tw6885390927442937195:T:=t
theorem tw364906518795052587:T:=t
theorem tw5565504619827430955:T:=t
theorem tw5760789257564444811:T:=t
theorem tw7257662411179477739:T:=t
theorem tw12566714432673101547:T:=t
theorem tw469107726730205931:T:=t
theorem tw12425137391138224907:T:=t
theorem tw9881309371292612907:T:=t
theorem tw8307029076902094731:T:=t
theorem tw5768708046682631051:T:=t
theorem tw15146226633581336011:T:=t
theorem tw12503034225725685227:T:=t
theorem tw1845388188213433419:T:=t
theorem tw7253517103421118539:T:=t
theorem tw202461495639692907:T:=t
theorem tw1855208217236249986:T:=t
theorem tw16264370154056066:T:=t
theorem tw10694066461022140834:T:=t
theorem tw11573176164066078722:T:=t
theorem tw11730083312531907618:T:=t
theorem tw12494496518044278946:T:=t
theorem tw8737412656630864066:T:=t
theorem tw3519620770301490914:T:=t
theorem tw2703845700531461890:T:=t
theorem tw785891212050648866:T:=t
theorem tw1284343163701477698:T:=t
theorem tw925267241579179362:T:=t
theorem tw2737750725896957826:T:=t
theorem tw6046914484701750178:T:=t
theorem tw6773626534007703490:T:=t
theorem tw432037875751373314:T:=t
theorem tw11148867138117186242:T:=t
theorem tw14084985943505131202:T:=t
theorem tw5791107954587784898:T:=t
theorem tw5800097197477307618:T:=t
theorem tw18238190117704969506:T:=t
theorem tw11448136090814059330:T:=t
theorem tw3531981540585742146:T:=t
theorem tw7914966534203543394:T:=t
theorem tw15725987706130692489:T:=t
theorem tw14195747638258118996:T:=t
theorem tw4121396867504843963:T:=t
theorem tw2582026066622445500:T:=t
theorem tw12410469698379492708:T:=t
end main
set_option maxRecDepth 100000 in
set_option maxHeartbeats 8000000 in
theorem main:PySem.Challenge.rw_pq0089_08.Holds:=by
 w_on
 o_law
 o_head (kmHook KF KA (λ_=>by kernel_rfl) [])
 (case hw=>w_witness2)
 intro w s₀ aQ mg mb G Y fa o pm cd doc dV kV ho hd hcd hD hmg hg args vals as hpre hlay hrd hwl hlo
 have KX:=km_in_of Y
 km_tabs Y
 refine Ground.open G ?_
 intro T B D TE TW
 try (refine guard_noD D (by decide+kernel) ?_; clear D)
 have hfa:fa=617:=by
  have e:=mg_of (n:="law") (v:=.ref 617) KX (Top.g T) (by kernel_rfl)
  have e2:=e.symm.trans hmg
  injection e2 with e3
  injection e3 with e4
  exact e4.symm
 subst hfa
 clear hmg
 wrow_args hpre hlay hrd hwl hlo
 have h1:=Jz (prog:=PySem.Challenge.rw_pq0089_08.row.prog) KX T hg (by assumption) (by omega) evA KQ
 exact G8 DX (λ_ _=>rfl) (by kernel_rfl) h1
end Mine.Internal
set_option Elab.async false
theorem PySem.Challenge.cw_pq0089_08_holds : PySem.Challenge.rw_pq0089_08.Holds :=
  Mine.Internal.main
