import PyProof.Rows.All
import Wide.All
import OpenK.AllK
import Wide.FinOn
import PyProof.ExcClass3
import PyProof.StrWalks
import KE.KBytesWalk
import PyProof.EnumMake
import PyProof.ZipIter
import KE.KBytesCut
import KE.BytesMake
import KE.KPop
import PyProof.ExcBaseAll.Exception
import KE.KDictAnyGet
import PyProof.MinMaxWalk
import Wide.BytesRules
import PyProof.Rows.Chain
import KE.BitLaws
import PyProof.Rows.BitMore
import KE.KSortTup
import PyProof.Rows.SetFrom
import PyProof.CollectIter
import PyProof.SetRoads
import PyProof.FactsAll.set_1
import PyProof.DictWalks
import Lean
import PySem.Challenge.RW_pb0585_01
set_option Elab.async false
set_option maxRecDepth 100000
set_option autoImplicit false
set_option linter.all false
set_option compiler.extract_closed false
set_option genInjectivity false
set_option genSizeOf false
set_option genSizeOfSpec false
noncomputable section
open List (drop foldl map range range' replicate take zipWith)
open Array (getD)
open PySem renaming wpAny_bind→Qq,Value→Qr,Shared→Qs,Addr→Qt,wpAny_pure→Qv,Str→Qy,Around→QE,wpAny→QF,PyData→QG,model→QJ,SetTable→QK,Heap→QL,Scope→QM,Expr→QR,starEach→QS,mainGlobals→QY,wpAny_holding→Q0,wpAny_standAt→Q2,wpAny_of_eq→Q4,wpAny_mono→Q7,builtinsNs→Ra,wpAny_Name→Rb,Pos→Rd,NameKind→Rg,wpAny_call_entry→Rj,wpAny_callSpecial?_slot→Rm,Program→Rn,wpAny_setField→Rp,sizeLine_eq→Rq,Stmt→Rr,wpAny_loadPart_at→Ru,wpAny_letTemporaryGo→Rz,FuncData→RD,World→RE,wpAny_Call_ofName→RG,wpAny_setState_of→RI,DictEntry→RK,wpAny_field→RL,rawInt→RM,plainObj_wpAny_Assign_Attribute→RN,arm_eval_Attribute→RQ,codeAny→RS,wpAny_newObj_type→RW,codeAny_builtin→RZ,wpAny_isSubtype_exc→R2,Obj→R3,wpAny_execs_cons→R7,builtinLookup_eq_fast→Sd,wpAny_truthy_bool→Se,wpAny_setField_rec→So,codeAny_of_tree→Sq,wpAny_isTrue_Compare1→Sw,wpAny_call→Sy,bm_if_false→Sz,wpAny_comprehension_free→SK,plainId_quiet→SM,typeLookup_type→SN,wpAny_rule→SO,clipAt_nat→SQ,wpAny_list_append_plain→SU,wpAny_Call_method_lateS→SW,wpAny_pyIter_list→S3,wpAny_Assign_Subscript→S4,fits_of_scanBound→S5,Drawn→S6,wpAny_askSetting→S7,wpAny_attempt→S9,codeAny_call_builtin→Tc,wpAny_execs_nil→Te,wpAny_specialOf→Tf,Model→To,codeAny_call_cells→Tp,isSubtype_type→Tq,wpAny_Return_some→Tt,wpAny_pyIter_enum→Tw,slot_list_getitem→Tx,wpAny_isInstance→TJ,wpAny_allTrue_And_cons→TK,wpAny_noteFrame_againW→TL,codeAny_mono→TN,wpAny_updateSeq→TP,wpAny_allTrue_Or_cons→TR,exec_Assign_Name_used→TS,Env→TU,wpAny_Expr_any→TY,wpAny_newTuple→TZ,eval_Subscript→T4,wpAny_isTrue_BoolOp→T7,wpAny_setItem_pairs→T8,wpAny_newList→T9,wpAny_List→Ug,wpAny_assign_Tuple→Uh,wpAny_getItem_list→Ui,call_meets→Uj,wpAny_Assign_Name→Un,codeAny_loop→Up,Code→Uq,slot_list_setitem→Us,slot_dict_getitem→Uu,object_init_meets→Uv,wpAny_storeSet_of→Uy,wpAny_pyIter_slot→Uz,Arguments→UA,wpAny_madeBy_exc→UC,wpAny_Try_except→UD,wpAny_getItem_of→UE,wpAny_Tuple→UG,wpAny_noted→UH,wpAny_tests_one→UJ,Tok→UN,refuseLoop_ref→UP,callType_codes→UQ,bm_if_true→UR,intKind_is→UX,wpAny_runValue→UY,entryFor_alias→UZ,wpAny_fieldsOf→U0,wpAny_seqItems→U1,wpAny_handled→U4,name_of_addr→Va,fitsIndex_of→Vc,wpAny_typeOf→Vj,execs→Vl,Flow→Vr,CmpOp→Vs
open List renaming length_map→Qu,getD_eq_getElem?_getD→Qw,length_append→QA,mem_cons_self→QB,length_cons→QC,mem_cons_of_mem→QD,size_toArray→QH,getElem?_eq_getElem→QI,mem_singleton→QO,length_nil→QP,map_cons→QT,getElem?_map→QU,mem_append_right→QZ,mem_of_getElem?→Q1,length_range→Q6,append_assoc→Q9,map_append→Rc,mem_append_left→Rf,getElem?_toArray→Ri,map_map→Rk,lookup_cons→Ro,getElem?_cons_zero→Ry,not_mem_nil→RB,nodup_cons→RH,flatten_cons→RJ,drop_eq_nil_of_le→RV,take_of_length_le→RX,foldl_cons→RY,mem_cons→R1,all_eq_true→R4,getElem?_eq_none→R6,mem_range→R8,getElem?_cons_succ→Sa,getElem_of_mem→Sb,any_eq_true→Sg,mem_append→Sh,zip_cons_cons→Si,append_nil→Sj,length_singleton→Sl,length_drop→Sm,getElem?_replicate→Sp,mem_filterMap→Ss,mem_filter→Sx,map_congr_left→SD,length_take_le→SG,length_take→SH,getElem_mem→SV,ext_getElem→SX,mem_map→Tg,nodup_append→Th,getElem?_range→Tn,countP_cons→TB,pairwise_cons→TC,getElem_range→TF,pairwise_map→TM,findIdx_cons→TO,map_nil→T6,of_mem_zip→Ue,sum_cons→Uw,any_cons→UO,nodup_nil→U8,drop_zero→U9,lt_trans→Vp
open Nat renaming le_trans→Qx,le_refl→QV,pow_le_pow_right→Q3,lt_of_le_of_lt→Q8,zero_le→RC,lt_of_lt_of_le→RF,ne_of_lt→RO,le_of_eq→RP,ne_of_gt→R0,le_of_lt→R9,zero_add→Sk,le_add_right→Sn,lt_succ_of_lt→Sr,lt_succ_self→SI,min_eq_right→SY,pow_pos→Ti,min_eq_left→Ts,le_succ→Tv,not_lt_zero→TA,lt_irrefl→TH,pow_succ→T5,mod_lt→UB,lt_or_ge→UM,not_lt→US,pow_add→Vk
open PySem.Heap renaming get?_push_of_some→Qz,get?_push_size→QN,get?_update_self→Rh,lt_size→Rt,get?_update_other→Sf,size_push→Su,dictOf_iff→SP
open Int renaming toNat_natCast→QW,add_zero→TG,mul_zero→TV,mul_nonneg→Ub
open Bool renaming and_eq_true_iff→QX,and_eq_true→R5,not_eq_true'→S0,false_eq_true→S8,or_eq_true→Uc
open PySem.SeqAt renaming canLay_of_shaped→Q5,eqv_refl→U2
open PySem.Calls renaming evalArgs_plain→Rv,callWith_builtin→SJ,spliced_cons→S2,spliced_nil→Tu,Name_function_global→TX,Constant_str→Um,callWith_function→Uo
open Array renaming getElem?_toList→Rx,size_replicate→SA,length_toList→Ta,size_append→Tb,toList_inj→Uk
open PySem.W renaming instObj→RT,dictOf→Sv,boot_heap→Tj,WRecords→Tr,callWith_of→Tz,WData→TQ,typeIs_bytes→Ur,looks_findIn→Ut,method_inst→UI,keeps_K→UL,Frag→U3,get_own→Vd,hideAll_none→Ve,kas_rev→Vf,set_dict→Vn,kas_sort→Vo
open Option renaming isSome_iff_exists→RU,map_eq_some_iff→Td,map_some→Vq
open PyProof.Rows renaming step_dedup→SR,firstMet_succ→Ua,firstMet_length_le→Ul,entry_list_sort→UK,size_push'→UT,slot_list_sort→UU,args_list_sort→UW,evalArgs_nil3→U5,listUpdate_at→U6,firstMet_zero→U7,Assign_Tuple→Vb,plain_sorted→Vg,entry_sorted→Vh,args_sorted1→Vi,tail_any→Vm
namespace Mine.Internal
open PySem PySem.W PySem.Calls PyProof.Rows PyProof.V PySem.Spec PySem.SeqAt
noncomputable def top (k:Nat):Rr:=PySem.Challenge.pw_pb0585_01.main.body.getD k (.Pass default)
noncomputable def bO:Rr→Nat→Rr
 | .ClassDef _ _ _ body _ _ _ _ _ _ _,k=>body.getD k (.Pass default)
 | s,_=>s
noncomputable def bodyOf:Rr→List Rr
 | .FunctionDef _ _ body _ _ _ _ _ _ _=>body
 | _=>[]
noncomputable def aw:Rr→QM
 | .FunctionDef _ _ _ _ _ _ scope _ _ _=>scope
 | _=>default
noncomputable def du:Rr→UA
 | .FunctionDef _ args _ _ _ _ _ _ _ _=>args
 | _=>default
noncomputable def sT:List (Qy×Qr):=[("range",.type "range"),("enumerate",.type "enumerate"),("zip",.type "zip"),("set",.type "set"),("bytes",.type "bytes"),
 ("len",.builtin "len"),("sum",.builtin "sum"),("all",.builtin "all"),("chr",.builtin "chr"),("ord",.builtin "ord"),("sorted",.builtin "sorted"),("max",.builtin "max"),("Exception",.type "Exception")]
noncomputable def Ed:Nat→Qt
 | 0=>107
 | 1=>163
 | 2=>286
 | _=>314
noncomputable def pR:List (Qy×Qt):=[("left",114),("take",121),("number",128),("text",135)]
noncomputable def ra:Nat→Qt
 | 0=>138
 | 1=>173
 | 2=>289
 | _=>317
noncomputable def eE:Nat→List Qy
 | 0=>["octets","at"]
 | 1=>["bits","salt","many","behind","table"]
 | 2=>["sector","slab","record","fan","dnodes","ring","defer","most_record","uber","config","zap"]
 | _=>["kind","block","most","bonus"]
noncomputable def a9:Qy:="self"
noncomputable def xJ:List Qr:=[.type "Exception",.type "BaseException",.type "object"]
abbrev lI (xs:List Qr):R3:={ cls:=.type "tuple",data:=.seq xs.toArray }
noncomputable def cV:Qy:="why"
noncomputable def fY:List Qy:=["shape","dnodes","octets","top"]
noncomputable def uX:List (Qy×Qt):=[("dnode",356),("read",370),("put",399),("write",406)]
abbrev fe (a:Qt) (s:Rr) (l:List Qy):Qt×Rr×List Qy:=(a,s,l)
abbrev gp (x:Qy) (a:Qt):Qy×Qt:=(x,a)
abbrev gq (x:Qy) (i:Int):Qy×Int:=(x,i)
noncomputable def vS:List (Qt×Rr×List Qy):=[
 fe 82 (top 7) ["octets"],fe 92 (top 9) ["octets"],fe 82 (top 7) ["octets"],fe 114 (bO (top 10) 1) ["self"],fe 121 (bO (top 10) 2) ["self","many"],
 fe 128 (bO (top 10) 3) ["self","size"],fe 135 (bO (top 10) 4) ["self"],fe 149 (top 23) ["octets"],fe 163 (bO (top 24) 0) ["self","bits","salt","many","behind","table"],fe 184 (top 25) ["octets"],
 fe 191 (top 26) ["octets"],fe 198 (top 27) ["octets"],fe 205 (top 28) ["octets","at"],fe 212 (top 29) ["octets","name","told"],fe 219 (top 30) ["octets"],
 fe 226 (top 33) ["name","salt"],fe 233 (top 34) ["told","bits"],fe 240 (top 36) ["view","object_now"],fe 247 (top 37) ["view","object_now","number","size"],fe 254 (top 38) ["view","object_now","head","index","size"],
 fe 259 (top 39) ["view","object_now","head","size"],fe 264 (top 40) ["view","object_now","name"],fe 271 (top 41) ["view","object_now"],fe 300 (top 45) ["number","to"],fe 356 (bO (top 48) 3) ["self","number"],
 fe 370 (bO (top 48) 5) ["self","number","at","many"],fe 399 (bO (top 48) 9) ["self","number","octets"],fe 406 (bO (top 48) 10) ["self","number","at","octets"],fe 427 (top 50) ["script","at"],fe 432 (top 51) ["number","size"],
 fe 437 (top 52) ["script"],fe 442 (top 53) ["salt","rows"],fe 449 (top 54) ["bits","x"],fe 454 (top 55) ["leaves","told"],fe 459 (top 56) ["leaf","salt","rows"],
 fe 464 (top 57) ["view","salt","bits","leaves","order","table","rows"],fe 471 (top 58) ["view","name"],fe 478 (top 59) ["view"],fe 483 (top 60) ["view","salt","leaves","rows","bad","looped"],fe 488 (top 61) ["view","salt","bits","rows","y","z"],
 fe 495 (top 62) ["script"],fe 35 (bO (top 2) 0) ["self","why"]]
noncomputable def su:List (Qy×Qt):=[gp "number_of" 82,gp "octets_text" 92,gp "Cursor" 138,gp "micro_rows" 149,gp "FatHead" 173,gp "fat_head" 184,gp "sort_of" 191,gp "want_leaf" 198,gp "entry_at" 205,gp "leaf_find" 212,
 gp "leaf_rows" 219,gp "zap_hash" 226,gp "first_bits" 233,gp "first_block" 240,gp "block_at" 247,gp "table_entry" 254,gp "table_of" 259,gp "zap_find" 264,gp "zap_all" 271,gp "round_up" 300,
 gp "_law_cell" 427,gp "_law_digits" 432,gp "_law_rows" 437,gp "_law_micro" 442,gp "_law_leaves" 449,gp "_law_place" 454,gp "_law_leaf" 459,gp "_law_fat" 464,gp "_law_found" 471,gp "_law_all" 478,
 gp "_law_is_told" 483,gp "_law_fat_right" 488,gp "Shape" 289,gp "MemSet" 416]
noncomputable def oh:List (Qy×Int):=[gq "MICRO" 1,gq "FAT" 2,gq "LEAF" 3,gq "MICRO_HEAD" 7,gq "FAT_HEAD" 18,gq "LEAF_HEAD" 8,gq "NUMBER" 8,gq "PLACE" 4,gq "CHAINS" 4,gq "LINK" 2,gq "ENTRY" 15,gq "BITS" 32,gq "ZAP" 7]
noncomputable def bT:List Qt:=[2,35,37,38,50,51,100,107,114,121,128,135,137,138,163,172,173,279,286,288,289,314,316,317,335,356,370,371,378,399,406,415,416]
noncomputable def bP (h:QL):List Qt→U3
 | []=>[]
 | a::as=>match h.get? a with
  | some o=>(a,o)::bP h as
  | none=>bP h as
noncomputable def l5 (K:U3) (C:Qt) (fields:List Qy) (init:Qt):Bool :=
 (fields.all fun nm=>plainGet K C nm&&(match findIn K (.ref C) nm with|some attr=>noGet K attr|none=>false)&&decide (takerIn K C nm=some none)) &&
 hasDictIn K C&&decide (findIn K (.ref C) "__setattr__"=some (some (.builtin "object.__setattr__")))&&plainOver K C&&keepIn K (.ref C)&&makesIn K C&&decide (findIn K (.ref C) "__init__"=some (some (.ref init)))&&decide (typeIn K (.ref init)=some (.type "function"))
noncomputable def kU (K:U3) (C:Qt) (p:Qy×Qt):Bool:=plainGet K C p.1&&decide (findIn K (.ref C) p.1=some (some (.ref p.2)))&&isFn K (.ref p.2)&&keepIn K (.ref p.2)
noncomputable def codeB (h:QL) (cd:Qr) (q:Qy):Bool:=match cd with
 | .ref c=>(match h.get? c with
  | some o=>(match o.data with
   | .fields vs=>(match (vs[1]?:Option Qr) with
    | some (.str q' _)=>decide (q'=q)
    | _=>false)
   | _=>false)
  | none=>false)
 | _=>false
abbrev NI:=Option (UA×FuncBody×QM×List (Qy×Qt)×Qt×Qt×Qr×Bool)
noncomputable def LO (h:QL) (fd:RD):UA×FuncBody×QM×List (Qy×Qt)×Qt×Qt×Qr×Bool:=(fd.params,fd.body,fd.scope,fd.closure,fd.globals,fd.builtins,fd.defaults,codeB h fd.code fd.qualname)
noncomputable def LP (h:QL):Option R3→NI
 | some ⟨_,_,.func fd,_⟩=>some (LO h fd)
 | _=>none
noncomputable def Ec:Option Qr→Option Int
 | some (.int i _)=>some i
 | _=>none
noncomputable def kr:List (Qt×Rr×Qr):=vS.map (fun e=>(e.1,e.2.1,.none))++[(286,bO (top 44) 0,.ref 279),(335,bO (top 48) 0,.none),(314,bO (top 47) 0,.none),(378,bO (top 48) 6,.ref 371),(107,bO (top 10) 0,.ref 100)]
noncomputable def yu:List (Qy×Qt):=[("law",495),("Corrupt",51),("MemDnode",317)]
noncomputable def NA:List Qr:=[.int 0 305]
noncomputable def JG:List Qr:=[.int 16 596,.int 32 597,.int 32 598,.int 4 599,.int 4 600,.int 4 601,.int 2 602,.int 128 603,.int 192 604,.int 160 605,.int 128 606]
noncomputable def JH:List Qr:=[.bytes #[] 750]
abbrev Ai:=List Bool×List NI×List (Option R3)×List (Option Qr)×List (Option Qr×Option Qr)×List (Option Int)×List (Option (Option Qr))×Option Qr
noncomputable def obs (h:QL):Ai :=
 ([h.isNs QY,h.isNs Ra,l5 (bP h bT) 138 (eE 0) 107,l5 (bP h bT) 173 (eE 1) 163,l5 (bP h bT) 289 (eE 2) 286,l5 (bP h bT) 317 (eE 3) 314,l5 (bP h bT) 416 fY 335,uX.all (kU (bP h bT) 416),kU (bP h bT) 416 ("add",378),pR.all (kU (bP h bT) 138),keepIn (bP h bT) (.ref 51)],
 kr.map fun e=>LP h (h.get? e.1),
 [h.get? 51,h.get? 100,h.get? 279,h.get? 371],
 (su++yu).map fun p=>h.nsMap QY p.1,
 sT.map fun p=>(h.nsMap QY p.1,h.nsMap Ra p.1),
 oh.map fun p=>Ec (h.nsMap QY p.1),
 [findIn (bP h bT) (.ref 51) "__init__",findIn (bP h bT) (.ref 51) "__setattr__",findIn (bP h bT) (.ref 51) cV],
 typeIn (bP h bT) (.ref 35))
noncomputable def due:Ai :=
 (replicate 11 true,
 kr.map fun e=>some (du e.2.1,.stmts (bodyOf e.2.1),aw e.2.1,[],QY,Ra,e.2.2,true),
 [some (excClassObj "Corrupt" "Corrupt" 51 50 [.ref 38] (.ref 38::xJ) true [] [] false none none (some (.ref 42)) none (some (.str "Corrupt" 225)) (some (.str "Corrupt" 233)) (some (.bool true)) "Exception.__new__"),some (lI NA),some (lI JG),some (lI JH)],
 (su++yu).map fun p=>some (.ref p.2),
 sT.map fun p=>(none,some p.2),
 oh.map fun p=>some p.2,
 [some (some (.ref 35)),some (some (.builtin "object.__setattr__")),some none],
 some (.type "function"))
set_option maxHeartbeats 8000000
theorem LeftO.DP {p q:Rn}{loose:List Qy}{Xt:Qs→Bool}{α:Type}{Yf:Qs→α}{Ya:RE→α}{N M:Nat}{jN:Params→QL}{vP:Array GenState}{EO:S6}{jZ Ho:Nat}{ann:Option Qr}
  (Gb:∀ w:RE,(fencedOpening treeTable p w N).map (fun s=>(s.heap,s.gens,s.drawn,s.toks))=some (jN w.params,vP,EO,jZ))
  (size:∀ w:RE,((jN w.params).isNs QY&&vP.size==0,(jN w.params).objs.size,(jN w.params).nsMap QY "__annotations__")=(true,Ho,ann)) (le:Nat.ble M N=true)
  (run:∀ (w:RE) (os:OsState),(topRun treeTable p w Ho ann M ⟨jN w.params,vP,EO,jZ,os⟩ (topStub p)).map (fun s=>(staticsOk (importedModules p.main.body) (jN w.params) s.heap&&namesBound p s.heap&&gensDone s&&laidKept (jN w.params) s.heap,openSeen q loose (importedModules p.main.body) Xt true s,Yf s))=some (true,openGood q loose,Ya w)):LeftO p q loose Xt Yf Ya N true:=fun w=>by
 obtain ⟨⟨h,gs,d,k,os⟩,e,e'⟩:=Td.mp (Gb w)
 obtain ⟨rfl,rfl,rfl,rfl⟩:h=jN w.params∧gs=vP∧d=EO∧k=jZ:=by simpa using e'
 obtain ⟨z1,z2,z3⟩:_∧_∧_:=by simpa only [Prod.mk.injEq] using size w
 obtain ⟨ah,r1,r2⟩:=Td.mp (run w os)
 obtain ⟨l1,l2,l3⟩:_∧_∧_:=by simpa only [Prod.mk.injEq] using r2
 have r:=topRun_mono (N-M) _ _ _ _ r1
 rw [Nat.add_sub_cancel' (Nat.le_of_ble_eq_true le)] at r
 have t:topFrom treeTable p w N ⟨jN w.params,gs,d,k,os⟩=some ah:=by
  unfold topFrom
  dsimp only
  rw [z1,z2,z3,r]
  show (match staticsOk (importedModules p.main.body) (jN w.params) ah.heap&&namesBound p ah.heap&&gensDone ah&&laidKept (jN w.params) ah.heap with|true=>_|false=>_)=_
  rw [l1]
 unfold openEnds
 rw [e]
 show (topFrom treeTable p w N ⟨jN w.params,gs,d,k,os⟩).map _=_
 rw [t]
 show some (_,_)=_
 rw [l2,l3]
noncomputable def qv:Rn:={ PySem.Challenge.pw_pb0585_01 with main:={ PySem.Challenge.pw_pb0585_01.main with body:=[top 62] } }
abbrev sx (x:Qy):Qy:=x
noncomputable def nS:List Qy:=[sx "_wall",sx "PoolFault",sx "Corrupt",sx "Missing",sx "Misused",sx "number_of",sx "octets_of",sx "octets_text",sx "Cursor",sx "MICRO",sx "FAT",sx "LEAF",sx "MICRO_HEAD",sx "FAT_HEAD",sx "LEAF_HEAD",sx "NUMBER",sx "PLACE",sx "CHAINS",sx "LINK",sx "ENTRY",sx "micro_rows",sx "FatHead",sx "fat_head",sx "sort_of",sx "want_leaf",sx "entry_at",sx "leaf_find",sx "leaf_rows",sx "BITS",sx "zap_hash",sx "first_bits",sx "first_block",sx "block_at",sx "table_entry",sx "table_of",sx "zap_find",sx "zap_all",sx "ZAP",sx "Shape",sx "round_up",sx "MemDnode",sx "MemSet",sx "_law_cell",sx "_law_digits",sx "_law_rows",sx "_law_micro",sx "_law_leaves",sx "_law_place",sx "_law_leaf",sx "_law_fat",sx "_law_found",sx "_law_all",sx "_law_is_told",sx "_law_fat_right"]
theorem yE:∀ w:RE,(fencedOpening treeTable PySem.Challenge.pw_pb0585_01 w 8000).map (fun s=>(s.heap,s.gens,s.drawn,s.toks))=some (Tj w.params,#[],boot_drawn,boot_toks):=boot_open (by rfl) (by rfl) (by intro s;rfl)
theorem yk:∀ w:RE,((Tj w.params).isNs QY&&(#[]:Array GenState).size==0,(Tj w.params).objs.size,(Tj w.params).nsMap QY "__annotations__")=(true,11,some (.ref 6)):=fun w=>by kernel_rfl
noncomputable def A1 (s:Qs):Ai:=obs s.heap
theorem AR (w:RE) (os:OsState):(topRun treeTable PySem.Challenge.pw_pb0585_01 w 11 (some (.ref 6)) 3800 ⟨Tj w.params,#[],boot_drawn,boot_toks,os⟩ (topStub PySem.Challenge.pw_pb0585_01)).map (fun s=>(staticsOk (importedModules PySem.Challenge.pw_pb0585_01.main.body) (Tj w.params) s.heap&&namesBound PySem.Challenge.pw_pb0585_01 s.heap&&gensDone s&&laidKept (Tj w.params) s.heap,openSeen qv nS (importedModules PySem.Challenge.pw_pb0585_01.main.body) (fun _=>true) true s,A1 s))=some (true,openGood qv nS,due):=by
 rw [PySem.W.Fast.te14082659384304107361,PySem.W.Fast.te14364793385576792824,PySem.W.Fast.te4187177175401517315]
 kernel_rfl
theorem zi:LeftO PySem.Challenge.pw_pb0585_01 qv nS (fun _=>true) A1 (fun _=>due) 8000:=LeftO.DP yE yk (by rfl) AR
end Mine.Internal
namespace Mine.Internal
namespace L
set_option genCtorIdx false
inductive N where
| v (i:Nat)|k (c:Nat)|a (x y:N)|l (c:Nat) (y:N)|h (x:N) (c:Nat)
inductive Z where
| w (i:Nat)|k (c:Int)|a (x y:Z)|s (x y:Z)|g (x:Z)|l (c:Int) (y:Z)|h (x:Z) (c:Int)|u (x:N)
inductive F where
| le (x y:N)|lt (x y:N)|eq (x y:N)|Dy (x y:Z)|Dx (x y:Z)|Dz (x y:Z)|no (f:F)|an (f g:F)|or (f g:F)|im (f g:F)|ff
inductive P where
| s (x y:N)|r (x:N) (c:Nat)|t (z:Z)|mn (x y:N)|mx (x y:N)
@[reducible] noncomputable def Fi:List Nat→Nat→Nat
| [],_=>0
| x::_,0=>x
| _::l,i+1=>Fi l i
@[reducible] noncomputable def xG:List Int→Nat→Int
| [],_=>0
| x::_,0=>x
| _::l,i+1=>xG l i
@[reducible] noncomputable def N.den (l:Nat→Nat):N→Nat
| .v i=>l i
| .k c=>c
| .a x y=>x.den l+y.den l
| .l c y=>c*y.den l
| .h x c=>x.den l*c
@[reducible] noncomputable def Z.den (l:Nat→Nat) (q:List Int):Z→Int
| .w i=>xG q i
| .k c=>c
| .a x y=>x.den l q+y.den l q
| .s x y=>x.den l q-y.den l q
| .g x=>-x.den l q
| .l c y=>c*y.den l q
| .h x c=>x.den l q*c
| .u x=>(x.den l:Int)
@[reducible] noncomputable def F.den (l:Nat→Nat) (q:List Int):F→Prop
| .le x y=>x.den l≤y.den l
| .lt x y=>x.den l<y.den l
| .eq x y=>x.den l=y.den l
| .Dy x y=>x.den l q≤y.den l q
| .Dx x y=>x.den l q<y.den l q
| .Dz x y=>x.den l q=y.den l q
| .no f=>¬ f.den l q
| .an f g=>f.den l q∧g.den l q
| .or f g=>f.den l q∨g.den l q
| .im f g=>f.den l q→g.den l q
| .ff=>False
@[reducible] noncomputable def put (e:Nat→Nat) (j x:Nat):Nat→Nat:=fun i=>bif Nat.beq i j then x else e i
@[reducible] noncomputable def P.put (e:Nat→Nat) (q:List Int) (j:Nat):P→Nat→Nat
| .s x y=>L.put e j (x.den e-y.den e)
| .r x c=>L.put (L.put e j (x.den e / c)) (j+1) (x.den e % c)
| .t z=>L.put e j (z.den e q).toNat
| .mn x y=>L.put e j (min (x.den e) (y.den e))
| .mx x y=>L.put e j (max (x.den e) (y.den e))
@[reducible] noncomputable def P.len:P→Nat
| .r _ _=>2
| _=>1
@[reducible] noncomputable def ext (q:List Int):(Nat→Nat)→Nat→List P→Nat→Nat
| e,_,[]=>e
| e,j,p::r=>ext q (p.put e q j) (j+p.len) r
noncomputable def N.bd (n:Nat):N→Bool
| .v i=>Nat.blt i n
| .k _=>true
| .a x y=>x.bd n&&y.bd n
| .l _ y=>y.bd n
| .h x _=>x.bd n
noncomputable def Z.bd (n:Nat):Z→Bool
| .w _=>true
| .k _=>true
| .a x y=>x.bd n&&y.bd n
| .s x y=>x.bd n&&y.bd n
| .g x=>x.bd n
| .l _ y=>y.bd n
| .h x _=>x.bd n
| .u x=>x.bd n
abbrev Agree (j:Nat) (e e':Nat→Nat):Prop:=∀ i,i<j→e' i=e i
theorem lO (e:Nat→Nat) (j x:Nat):put e j x j=x:=by unfold put;rw [Nat.beq_refl];rfl
theorem km (e:Nat→Nat) {i j:Nat}(x:Nat) (h:i≠j):put e j x i=e i:=by
 unfold put
 cases q:Nat.beq i j with
 | true=>exact absurd (Nat.eq_of_beq_eq_true q) h
 | false=>rfl
theorem FK {α:Type}{a b c d:α}(f:α→α→α) (h:a=b) (k:c=d):f a c=f b d:=h▸k▸rfl
theorem N.app {e e':Nat→Nat}{j:Nat}{x:N}(g:Agree j e e') (h:x.bd j=true):x.den e'=x.den e:=by
 induction x with
 | v i=>exact g i (Nat.le_of_ble_eq_true h)
 | k _=>rfl
 | a x y oU oS=>have h:=QX.mp h;exact FK (·+·) (oU h.1) (oS h.2)
 | l c y ih=>exact congrArg (c*·) (ih h)
 | h x c ih=>exact congrArg (·*c) (ih h)
theorem Z.app {e e':Nat→Nat}{j:Nat}{q:List Int}{x:Z}(g:Agree j e e') (h:x.bd j=true):x.den e' q=x.den e q:=by
 induction x with
 | w i=>rfl
 | k _=>rfl
 | a x y oU oS=>have h:=QX.mp h;exact FK (·+·) (oU h.1) (oS h.2)
 | s x y oU oS=>have h:=QX.mp h;exact FK (·-·) (oU h.1) (oS h.2)
 | g x ih=>exact congrArg (- ·) (ih h)
 | l c y ih=>exact congrArg (c*·) (ih h)
 | h x c ih=>exact congrArg (·*c) (ih h)
 | u x=>exact congrArg (fun n:Nat=>(n:Int)) (N.app g h)
noncomputable def P.bd (n:Nat):P→Bool
| .s x y=>x.bd n&&y.bd n
| .r x _=>x.bd n
| .t z=>z.bd n
| .mn x y=>x.bd n&&y.bd n
| .mx x y=>x.bd n&&y.bd n
noncomputable def P.fact (j:Nat):P→F
| .s x y=>.or (.an (.le y x) (.eq (.a (.v j) y) x)) (.an (.lt x y) (.eq (.v j) (.k 0)))
| .r x c=>.im (.lt (.k 0) (.k c)) (.an (.lt (.v (j+1)) (.k c)) (.eq x (.a (.l c (.v j)) (.v (j+1)))))
| .t z=>.or (.an (.Dy (.k 0) z) (.Dz (.u (.v j)) z)) (.an (.Dx z (.k 0)) (.eq (.v j) (.k 0)))
| .mn x y=>.or (.an (.le x y) (.eq (.v j) x)) (.an (.lt y x) (.eq (.v j) y))
| .mx x y=>.or (.an (.le x y) (.eq (.v j) y)) (.an (.lt y x) (.eq (.v j) x))
theorem DF {a b x y v:Nat}(ha:a=x) (hb:b=y) (hv:v=x-y):(b≤a∧v+b=a)∨(a<b∧v=0):=by
 subst ha hb hv
 exact (UM a b).elim (fun h=>.inr ⟨h,Nat.sub_eq_zero_of_le (R9 h)⟩) fun h=>.inl ⟨h,Nat.sub_add_cancel h⟩
theorem ER {a x c v w:Nat}(ha:a=x) (hv:v=x / c) (hw:w=x % c) (h:0<c):w<c∧a=c*v+w:=by
 subst ha hv hw
 exact ⟨UB _ h,(Nat.div_add_mod _ _).symm⟩
theorem D4 {a z:Int}{v:Nat}(ha:a=z) (hv:v=z.toNat):(0≤a∧(v:Int)=a)∨(a<0∧v=0):=by
 subst ha hv
 exact (Int.lt_or_le a 0).elim (fun h=>.inr ⟨h,Int.toNat_of_nonpos (Int.le_of_lt h)⟩) fun h=>.inl ⟨h,Int.toNat_of_nonneg h⟩
theorem D6 {a b x y v:Nat}(ha:a=x) (hb:b=y) (hv:v=min x y):(a≤b∧v=a)∨(b<a∧v=b):=by
 subst ha hb hv
 exact (UM b a).elim (fun h=>.inr ⟨h,SY (R9 h)⟩) fun h=>.inl ⟨h,Ts h⟩
theorem D8 {a b x y v:Nat}(ha:a=x) (hb:b=y) (hv:v=max x y):(a≤b∧v=b)∨(b<a∧v=a):=by
 subst ha hb hv
 exact (UM b a).elim (fun h=>.inr ⟨h,Nat.max_eq_left (R9 h)⟩) fun h=>.inl ⟨h,Nat.max_eq_right h⟩
theorem P.pL {e:Nat→Nat}{q:List Int}{j:Nat}(p:P):Agree j e (p.put e q j):=fun i h=>by
 have h1:i≠j:=RO h
 cases p with
 | r x c=>exact (km _ _ (RO (Sr h))).trans (km _ _ h1)
 | _=>exact km _ _ h1
theorem P.ok {e e':Nat→Nat}{q:List Int}{j:Nat}{p:P}(h:p.bd j=true) (g:Agree (j+p.len) (p.put e q j) e'):(p.fact j).den e' q:=by
 have g':Agree j e e':=fun i hi=>(g i (RF hi (Sn _ _))).trans (p.pL i hi)
 have gj:e' j=p.put e q j j:=g j (by cases p<;>exact Nat.lt_add_of_pos_right (Nat.succ_pos _))
 cases p with
 | s x y=>have h:=QX.mp h;exact DF (N.app g' h.1) (N.app g' h.2) (gj.trans (lO ..))
 | r x c=>exact ER (N.app g' h) (gj.trans ((km _ _ (RO (SI j))).trans (lO ..))) ((g (j+1) (SI _)).trans (lO ..))
 | t z=>exact D4 (Z.app g' h) (gj.trans (lO ..))
 | mn x y=>have h:=QX.mp h;exact D6 (N.app g' h.1) (N.app g' h.2) (gj.trans (lO ..))
 | mx x y=>have h:=QX.mp h;exact D8 (N.app g' h.1) (N.app g' h.2) (gj.trans (lO ..))
noncomputable def LZ:Nat→List P→Bool
| _,[]=>true
| n,p::r=>p.bd n&&LZ (n+p.len) r
noncomputable def w7:List P→Nat
| []=>0
| p::r=>p.len+w7 r
noncomputable def facts (f:F):Nat→List P→F
| _,[]=>f
| n,p::r=>.an (p.fact n) (facts f (n+p.len) r)
theorem Br {q:List Int}(t:List P):∀ {e j},Agree j e (ext q e j t):=by
 induction t with
 | nil=>intro e j i _;rfl
 | cons p t ih=>intro e j i h;exact (ih (e:=p.put e q j) (j:=j+p.len) i (RF h (Sn _ _))).trans (p.pL i h)
theorem Bq {q:List Int}(t:List P):∀ {e j},(∀ i,j≤i→e i=0)→∀ i,j+w7 t≤i→ext q e j t i=0:=by
 induction t with
 | nil=>intro e j h i hi;exact h i hi
 | cons p t ih =>
  intro e j h i hi
  refine ih (e:=p.put e q j) (j:=j+p.len) (fun k hk=>?_) i ((Nat.add_assoc ..).symm▸hi)
  have k0:=h k (Qx (Sn _ _) hk)
  cases p with
  | r x c=>exact (km _ _ (R0 hk)).trans ((km _ _ (R0 (Nat.lt_of_succ_lt hk))).trans k0)
  | _=>exact (km _ _ (R0 hk)).trans k0
theorem EM {q:List Int}{f:F}(t:List P):∀ {e j},LZ j t=true→f.den (ext q e j t) q→(facts f j t).den (ext q e j t) q:=by
 induction t with
 | nil=>intro e j _ h;exact h
 | cons p t ih =>
  intro e j hb h
  have hb:=QX.mp hb
  exact ⟨P.ok hb.1 (Br (e:=p.put e q j) t),ih hb.2 h⟩
noncomputable def dot:List Int→List Int→Int
| [],_=>0
| _::_,[]=>0
| a::p,x::l=>a*x+dot p l
noncomputable def yy:List Int→List Int→List Int
| [],b=>b
| a::p,[]=>a::p
| x::a,y::b=>(x+y)::yy a b
noncomputable def unit:Nat→List Int
| 0=>[1]
| i+1=>0::unit i
theorem Bx (p:List Int):dot p []=0:=by cases p<;>rfl
theorem sL:∀ (p r l:List Int),dot (yy p r) l=dot p l+dot r l
| [],r,l=>(Int.zero_add _).symm
| a::p,[],l=>(TG _).symm
| a::p,b::r,[]=>rfl
| a::p,b::r,x::l=>by show (a+b)*x+dot (yy p r) l=(a*x+dot p l)+(b*x+dot r l);rw [sL p r l,Int.add_mul];omega
theorem q6 (c:Int):∀ (p l:List Int),dot (p.map (c*·)) l=c*dot p l
| [],l=>(TV _).symm
| a::p,[]=>(TV _).symm
| a::p,x::l=>by show c*a*x+dot (p.map (c*·)) l=c*(a*x+dot p l);rw [q6 c p l,Int.mul_add,Int.mul_assoc]
theorem lb:∀ (i:Nat) (l:List Int),dot (unit i) l=xG l i
| 0,[]=>rfl
| 0,x::l=>by show 1*x+0=x;omega
| i+1,[]=>rfl
| i+1,x::l=>by show 0*x+dot (unit i) l=xG l i;rw [lb i l];omega
structure S where
 c:Int
 p:List Int
noncomputable def S.ev (f:S) (l:List Int):Int:=f.c+dot f.p l
noncomputable def S.add (f g:S):S:=⟨f.c+g.c,yy f.p g.p⟩
noncomputable def S.mul (k:Int) (f:S):S:=⟨k*f.c,f.p.map (k*·)⟩
theorem S.kA (f g:S) (l:List Int):(f.add g).ev l=f.ev l+g.ev l:=by show (f.c+g.c)+dot (yy f.p g.p) l=(f.c+dot f.p l)+(g.c+dot g.p l);rw [sL];omega
theorem S.gZ (k:Int) (f:S) (l:List Int):(f.mul k).ev l=k*f.ev l:=by show k*f.c+dot (f.p.map (k*·)) l=k*(f.c+dot f.p l);rw [q6,Int.mul_add]
noncomputable def N.lf (z:Nat):N→S
| .v i=>⟨0,unit (z+i)⟩
| .k c=>⟨c,[]⟩
| .a x y=>(x.lf z).add (y.lf z)
| .l c y=>(y.lf z).mul c
| .h x c=>(x.lf z).mul c
noncomputable def Z.lf (z:Nat):Z→S
| .w i=>if Nat.blt i z then ⟨0,unit i⟩ else ⟨0,[]⟩
| .k c=>⟨c,[]⟩
| .a x y=>(x.lf z).add (y.lf z)
| .s x y=>(x.lf z).add ((y.lf z).mul (-1))
| .g x=>(x.lf z).mul (-1)
| .l c y=>(y.lf z).mul c
| .h x c=>(x.lf z).mul c
| .u x=>x.lf z
noncomputable def vals (N:Nat) (l:Nat→Nat) (q:List Int):List Int:=q++(range N).map fun i=>(l i:Int)
theorem uV (q r:List Int):∀ i,xG (q++r) (q.length+i)=xG r i:=by
 induction q with
 | nil=>intro i;rw [QP,Sk];rfl
 | cons x q ih=>intro i;rw [QC,Nat.add_right_comm];exact ih i
theorem Dw (q r:List Int):∀ i,i<q.length→xG (q++r) i=xG q i:=by
 induction q with
 | nil=>intro i h;cases h
 | cons x q ih=>intro i h;cases i with
  | zero=>rfl
  | succ i=>exact ih i (Nat.lt_of_succ_lt_succ h)
theorem AG (q:List Int):∀ i,q.length≤i→xG q i=0:=by
 induction q with
 | nil=>intro i _;rfl
 | cons x q ih=>intro i h;cases i with
  | zero=>cases h
  | succ i=>exact ih i (Nat.le_of_succ_le_succ h)
theorem AH (l:List Int):∀ i,xG l i=l.getD i 0:=by
 induction l with
 | nil=>intro i;rfl
 | cons x l ih=>intro i;cases i with
  | zero=>rfl
  | succ i=>exact ih i
theorem ro {n:Nat}{l:Nat→Nat}(h:∀ i,n≤i→l i=0) (i:Nat):xG ((range n).map fun i=>(l i:Int)) i=(l i:Int):=by
 rw [AH,Qw,QU]
 rcases UM i n with q|q
 ·rw [Tn q];rfl
 ·rw [R6 (by rw [Q6];exact q),h i q];rfl
section
variable {n:Nat}{l:Nat→Nat}(q:List Int) (ho:∀ i,n≤i→l i=0)
include ho
theorem N.cH (x:N):(x.lf q.length).ev (vals n l q)=(x.den l:Int):=by
 induction x with
 | v i=>show 0+dot (unit (q.length+i)) (q++_)=_;rw [lb,uV,ro ho,Int.zero_add]
 | k c=>show (c:Int)+0=_;rw [TG]
 | a x y oU oS=>show (S.add _ _).ev _=_;rw [S.kA,oU,oS];rfl
 | l c y ih=>show (S.mul _ _).ev _=_;rw [S.gZ,ih];rfl
 | h x c ih=>show (S.mul _ _).ev _=_;rw [S.gZ,ih,Int.mul_comm];rfl
theorem Z.cH (x:Z):(x.lf q.length).ev (vals n l q)=x.den l q:=by
 induction x with
 | w i =>
  show (if Nat.blt i q.length then (⟨0,unit i⟩:S) else ⟨0,[]⟩).ev (vals n l q)=xG q i
  cases h:Nat.blt i q.length with
  | true=>show 0+dot (unit i) (q++_)=_;rw [lb,Dw q _ i (Nat.le_of_ble_eq_true h),Int.zero_add]
  | false=>rw [AG q i (Nat.le_of_not_lt fun z=>by rw [Nat.blt,Nat.ble_eq_true_of_le z] at h;cases h)];rfl
 | k c=>show c+0=_;rw [TG]
 | a x y oU oS=>show (S.add _ _).ev _=_;rw [S.kA,oU,oS]
 | s x y oU oS=>show (S.add _ _).ev _=_;rw [S.kA,S.gZ,oU,oS];show _+-1*_=_-_;omega
 | g x ih=>show (S.mul _ _).ev _=_;rw [S.gZ,ih];show -1*_=-_;omega
 | l c y ih=>show (S.mul _ _).ev _=_;rw [S.gZ,ih]
 | h x c ih=>show (S.mul _ _).ev _=_;rw [S.gZ,ih,Int.mul_comm]
 | u x=>exact N.cH q ho x
end
structure G where
 e:Bool
 f:S
noncomputable def G.ok (g:G) (l:List Int):Prop:=match g.e with
| true=>g.f.ev l=0
| false=>0≤g.f.ev l
abbrev Sat (cs:List G) (l:List Int):Prop:=∀ g∈cs,g.ok l
abbrev oM (cc:List (List G)) (l:List Int):Prop:=∃ cs∈cc,Sat cs l
noncomputable def prod (a b:List (List G)):List (List G):=a.flatMap fun x=>b.map fun y=>x++y
theorem qw {a b:List (List G)} {l:List Int}(ha:oM a l) (hb:oM b l):oM (prod a b) l:=by
 obtain ⟨x,hx,sx⟩:=ha
 obtain ⟨y,hy,sy⟩:=hb
 exact ⟨x++y,List.mem_flatMap.mpr ⟨x,hx,Tg.mpr ⟨y,hy,rfl⟩⟩,fun g hg=>(Sh.mp hg).elim (sx g) (sy g)⟩
theorem yB {a b:List (List G)} {l:List Int}(ha:oM a l):oM (a++b) l:=let ⟨x,hx,sx⟩:=ha;⟨x,Rf _ hx,sx⟩
theorem yA {a b:List (List G)} {l:List Int}(hb:oM b l):oM (a++b) l:=let ⟨x,hx,sx⟩:=hb;⟨x,QZ _ hx,sx⟩
noncomputable def ge (x y:S) (k:Int):List (List G):=[[⟨false,(x.add (y.mul (-1))).add ⟨k,[]⟩⟩]]
noncomputable def same (x y:S):List (List G):=[[⟨true,x.add (y.mul (-1))⟩]]
theorem iZ {x y:S}{k:Int}{l:List Int}(h:y.ev l≤x.ev l+k):oM (ge x y k) l :=
 ⟨_,QO.mpr rfl,fun g hg=>by rw [QO.mp hg];show 0≤(S.add _ _).ev l;rw [S.kA,S.kA,S.gZ];show _≤_+(k+0);omega⟩
theorem va {x y:S}{l:List Int}(h:x.ev l=y.ev l):oM (same x y) l :=
 ⟨_,QO.mpr rfl,fun g hg=>by rw [QO.mp hg];show (S.add _ _).ev l=0;rw [S.kA,S.gZ];omega⟩
noncomputable def nf (z:Nat):Bool→F→List (List G)
| true,.le x y=>ge (y.lf z) (x.lf z) 0
| false,.le x y=>ge (x.lf z) (y.lf z) (-1)
| true,.lt x y=>ge (y.lf z) (x.lf z) (-1)
| false,.lt x y=>ge (x.lf z) (y.lf z) 0
| true,.eq x y=>same (x.lf z) (y.lf z)
| false,.eq x y=>ge (x.lf z) (y.lf z) (-1)++ge (y.lf z) (x.lf z) (-1)
| true,.Dy x y=>ge (y.lf z) (x.lf z) 0
| false,.Dy x y=>ge (x.lf z) (y.lf z) (-1)
| true,.Dx x y=>ge (y.lf z) (x.lf z) (-1)
| false,.Dx x y=>ge (x.lf z) (y.lf z) 0
| true,.Dz x y=>same (x.lf z) (y.lf z)
| false,.Dz x y=>ge (x.lf z) (y.lf z) (-1)++ge (y.lf z) (x.lf z) (-1)
| b,.no f=>nf z (!b) f
| true,.an f g=>prod (nf z true f) (nf z true g)
| false,.an f g=>nf z false f++nf z false g
| true,.or f g=>nf z true f++nf z true g
| false,.or f g=>prod (nf z false f) (nf z false g)
| true,.im f g=>nf z false f++nf z true g
| false,.im f g=>prod (nf z true f) (nf z false g)
| true,.ff=>[]
| false,.ff=>[[]]
theorem c0 {a b:Nat}(h:a≤b):(a:Int)≤b+0:=by rw [TG];exact Int.ofNat_le.mpr h
theorem c1 {a b:Nat}(h:a<b):(a:Int)≤b+-1:=Int.le_sub_one_of_lt (Int.ofNat_lt.mpr h)
theorem d0 {a b:Int}(h:a≤b):a≤b+0:=by rw [TG];exact h
theorem d1 {a b:Int}(h:a<b):a≤b+-1:=Int.le_sub_one_of_lt h
theorem Hl {n:Nat}{l:Nat→Nat}(q:List Int) (ho:∀ i,n≤i→l i=0) (f:F):(f.den l q→oM (nf q.length true f) (vals n l q))∧(¬ f.den l q→oM (nf q.length false f) (vals n l q)):=by
 induction f with
 | le x y=>exact ⟨fun h=>iZ (by rw [N.cH q ho,N.cH q ho];exact c0 h),fun h=>iZ (by rw [N.cH q ho,N.cH q ho];exact c1 (Nat.lt_of_not_le h))⟩
 | lt x y=>exact ⟨fun h=>iZ (by rw [N.cH q ho,N.cH q ho];exact c1 h),fun h=>iZ (by rw [N.cH q ho,N.cH q ho];exact c0 (Nat.le_of_not_lt h))⟩
 | eq x y=>exact ⟨fun h=>va (by rw [N.cH q ho,N.cH q ho];exact congrArg (fun n:Nat=>(n:Int)) h),fun h=>(Nat.lt_or_gt_of_ne h).elim (fun h=>yA (iZ (by rw [N.cH q ho,N.cH q ho];exact c1 h))) fun h=>yB (iZ (by rw [N.cH q ho,N.cH q ho];exact c1 h))⟩
 | Dy x y=>exact ⟨fun h=>iZ (by rw [Z.cH q ho,Z.cH q ho];exact d0 h),fun h=>iZ (by rw [Z.cH q ho,Z.cH q ho];exact d1 (Int.lt_of_not_ge h))⟩
 | Dx x y=>exact ⟨fun h=>iZ (by rw [Z.cH q ho,Z.cH q ho];exact d1 h),fun h=>iZ (by rw [Z.cH q ho,Z.cH q ho];exact d0 (Int.not_lt.mp h))⟩
 | Dz x y=>exact ⟨fun h=>va (by rw [Z.cH q ho,Z.cH q ho];exact h),fun h=>(Int.lt_or_gt_of_ne h).elim (fun h=>yA (iZ (by rw [Z.cH q ho,Z.cH q ho];exact d1 h))) fun h=>yB (iZ (by rw [Z.cH q ho,Z.cH q ho];exact d1 h))⟩
 | no f ih=>exact ⟨fun h=>ih.2 h,fun h=>ih.1 (Classical.not_not.mp h)⟩
 | an f g oU oS=>exact ⟨fun h=>qw (oU.1 h.1) (oS.1 h.2),fun h=>by
   by_cases hf:f.den l q
   ·exact yA (oS.2 fun hg=>h ⟨hf,hg⟩)
   ·exact yB (oU.2 hf)⟩
 | or f g oU oS=>exact ⟨fun h=>h.elim (fun h=>yB (oU.1 h)) fun h=>yA (oS.1 h),fun h=>qw (oU.2 fun z=>h (.inl z)) (oS.2 fun z=>h (.inr z))⟩
 | im f g oU oS=>exact ⟨fun h=>by
   by_cases hf:f.den l q
   ·exact yA (oS.1 (h hf))
   ·exact yB (oU.2 hf),fun h=>by
   by_cases hf:f.den l q
   ·exact qw (oU.1 hf) (oS.2 fun hg=>h fun _=>hg)
   ·exact absurd (fun z=>absurd z hf) h⟩
 | ff=>exact ⟨fun h=>h.elim,fun _=>⟨[],QO.mpr rfl,fun g hg=>nomatch hg⟩⟩
noncomputable def hd (g:G):Int:=g.f.p.headD 0
noncomputable def tl (g:G):G:=if hd g==0 then ⟨g.e,g.f.c,g.f.p.tail⟩ else ⟨false,0,[]⟩
noncomputable def comb (a:Int) (g:G) (b:Int) (h:G):G:=if decide (0≤a)&&(h.e||decide (0≤b)) then ⟨g.e&&h.e,(g.f.mul a).add (h.f.mul b)⟩ else ⟨false,0,[]⟩
noncomputable def Bk (p:List Int):Nat:=p.foldl (fun g a=>Nat.gcd g a.natAbs) 0
noncomputable def yb (g:G):G :=
 let d:Int:=Bk g.f.p
 let p:=g.f.p.map (· / d)
 if decide (1<d)&&(p.map (d*·))==g.f.p then (if g.e then (if g.f.c % d==0 then ⟨true,g.f.c / d,p⟩ else ⟨false,-1,[]⟩) else ⟨false,g.f.c / d,p⟩) else g
noncomputable def idle (g:G):Bool:=g.f.p.all (·==0)&&(if g.e then g.f.c==0 else decide (0≤g.f.c))
noncomputable def bad (g:G):Bool:=g.f.p.all (·==0)&&(if g.e then g.f.c != 0 else decide (g.f.c<0))
noncomputable def elim (cs:List G):List G:=match cs.find? fun g=>g.e&&hd g != 0 with
| some q=>cs.map fun g=>tl (comb (hd q).natAbs g (-((hd q).sign*hd g)) q)
| none=>cs.map tl++((cs.filter fun g=>decide (0<hd g)).flatMap fun g=>(cs.filter fun h=>decide (hd h<0)).map fun h=>tl (comb (-hd h) g (hd g) h))
noncomputable def unsat:Nat→List G→Bool
| 0,cs=>cs.any bad
| n+1,cs=>cs.any bad||unsat n (((elim cs).map yb).filter fun g=>!idle g)
theorem EP (p l:List Int):dot p l=p.headD 0*l.headD 0+dot p.tail l.tail:=by
 cases p with
 | nil=>show (0:Int)=0*_+0;omega
 | cons a p=>cases l with
  | nil=>show (0:Int)=a*0+dot p [];rw [Bx];omega
  | cons x l=>rfl
theorem zW (p l:List Int) (h:p.all (·==0)=true):dot p l=0:=by
 induction p generalizing l with
 | nil=>rfl
 | cons a p ih =>
  have h:=QX.mp (show (a==0&&p.all (·==0))=true from h)
  cases l with
  | nil=>rfl
  | cons x l=>show a*x+dot p l=0;rw [ih l h.2,eq_of_beq h.1];omega
theorem vg (l:List Int):(⟨false,0,[]⟩:G).ok l:=by show (0:Int)≤0+0;omega
theorem x6 {g:G}{l:List Int}(h:g.ok l):(tl g).ok l.tail:=by
 unfold tl
 split
 ·rename_i z
  have e:g.f.ev l=(⟨g.f.c,g.f.p.tail⟩:S).ev l.tail:=by
   show g.f.c+dot g.f.p l=g.f.c+dot g.f.p.tail l.tail
   rw [EP g.f.p l,show g.f.p.headD 0=0 from eq_of_beq z];omega
  unfold G.ok at h ⊢
  rw [e] at h;exact h
 ·exact vg _
theorem vY {a b:Int}{g h:G}{l:List Int}(hg:g.ok l) (hh:h.ok l):(comb a g b h).ok l:=by
 unfold comb
 split
 ·rename_i z
  have z:=QX.mp z
  have z1:0≤a:=of_decide_eq_true z.1
  have e:((g.f.mul a).add (h.f.mul b)).ev l=a*g.f.ev l+b*h.f.ev l:=by rw [S.kA,S.gZ,S.gZ]
  unfold G.ok at hg hh ⊢
  dsimp only
  rw [e]
  cases eg:g.e<;>cases eh:h.e<;>rw [eg] at hg<;>rw [eh] at hh<;>dsimp only at hg hh ⊢
  ·have z2:0≤b:=of_decide_eq_true (by have:=z.2;rw [eh] at this;exact this)
   exact Int.add_nonneg (Ub z1 hg) (Ub z2 hh)
  ·rw [hh,TV,TG];exact Ub z1 hg
  ·have z2:0≤b:=of_decide_eq_true (by have:=z.2;rw [eh] at this;exact this)
   rw [hg,TV,Int.zero_add];exact Ub z2 hh
  ·rw [hg,hh,TV,TV];rfl
 ·exact vg _
theorem ya {c d y:Int}(hd:1<d) (h:c+d*y=0):c % d=0∧c / d+y=0:=by
 have e:c=d*(-y):=by rw [Int.mul_neg];omega
 subst e
 rw [Int.mul_emod_right,Int.mul_ediv_cancel_left _ (by omega)]
 exact ⟨rfl,by omega⟩
theorem x9 {c d y:Int}(hd:1<d) (h:0≤c+d*y):0≤c / d+y:=by
 rw [← Int.add_mul_ediv_left _ _ (by omega)]
 exact Int.ediv_nonneg h (by omega)
theorem x8 {g:G}{l:List Int}(h:g.ok l):(yb g).ok l:=by
 unfold yb
 dsimp only
 split
 ·rename_i z
  have z:=QX.mp z
  have hd:1<(Bk g.f.p:Int):=of_decide_eq_true z.1
  have e:g.f.ev l=g.f.c+(Bk g.f.p:Int)*dot (g.f.p.map (· / (Bk g.f.p:Int))) l:=by
   rw [← q6,eq_of_beq z.2];rfl
  unfold G.ok at h
  rw [e] at h
  cases eg:g.e<;>rw [eg] at h
  ·exact x9 hd h
  ·have k:=ya hd h
   rw [if_pos rfl,k.1]
   exact k.2
 ·exact h
theorem EZ {g:G}{l:List Int}(h:g.ok l):bad g=false:=by
 cases hb:bad g with
 | false=>rfl
 | true =>
  have z:=QX.mp hb
  have ev:g.f.ev l=g.f.c:=by show g.f.c+dot g.f.p l=_;rw [zW _ _ z.1,TG]
  unfold G.ok at h
  rw [ev] at h
  have z2:=z.2
  cases e:g.e<;>rw [e] at h z2
  ·exact absurd h (Int.not_le.mpr (of_decide_eq_true z2))
  ·exact absurd h (by simpa using z2)
theorem Bw {cs:List G}{l:List Int}(h:Sat cs l):Sat (elim cs) l.tail:=by
 intro g hg
 unfold elim at hg
 split at hg
 ·rename_i q hq
  obtain ⟨g',Bi,rfl⟩:=Tg.mp hg
  exact x6 (vY (h _ Bi) (h _ (List.mem_of_find?_eq_some hq)))
 ·rcases Sh.mp hg with hg|hg
  ·obtain ⟨g',Bi,rfl⟩:=Tg.mp hg
   exact x6 (h _ Bi)
  ·obtain ⟨a,ha,hg⟩:=List.mem_flatMap.mp hg
   obtain ⟨b,hb,rfl⟩:=Tg.mp hg
   exact x6 (vY (h _ (Sx.mp ha).1) (h _ (Sx.mp hb).1))
theorem v9 {cs:List G}{l:List Int}(h:Sat cs l):cs.any bad=false:=by
 rw [List.any_eq_false]
 exact fun g hg=>by rw [EZ (h g hg)];exact Bool.false_ne_true
theorem xW (n:Nat):∀ {cs:List G}{l:List Int},Sat cs l→unsat n cs=false:=by
 induction n with
 | zero=>intro cs l h;exact v9 h
 | succ n ih =>
  intro cs l h
  show (cs.any bad||unsat n _)=false
  rw [v9 h,ih (l:=l.tail) fun g hg=>?_];rfl
  obtain ⟨g',Bi,rfl⟩:=Tg.mp (Sx.mp hg).1
  exact x8 (Bw h g' Bi)
noncomputable def check (n z:Nat) (t:List P) (f:F):Bool :=
 LZ n t&&(nf z true (facts (.no f) n t)).all fun cs=>unsat (z+(n+w7 t)) (cs++(range (n+w7 t)).map fun i=>⟨false,0,unit (z+i)⟩)
theorem A5 (l:List Nat):∀ i,l.length≤i→Fi l i=0:=by
 induction l with
 | nil=>intro i _;rfl
 | cons x l ih=>intro i h;cases i with
  | zero=>cases h
  | succ i=>exact ih i (Nat.le_of_succ_le_succ h)
theorem fm {n z:Nat}{t:List P}{f:F}(h:check n z t f=true) (l:List Nat) (q:List Int) (hl:l.length=n) (hq:q.length=z):f.den (ext q (Fi l) n t) q:=by
 subst hl;subst hq
 have h:=QX.mp h
 have ho:∀ i,l.length+w7 t≤i→ext q (Fi l) l.length t i=0:=Bq t (A5 l)
 refine Classical.byContradiction fun no=>?_
 obtain ⟨cs,hc,sc⟩:=(Hl q ho (facts (.no f) l.length t)).1 (EM t h.1 no)
 have:=R4.mp h.2 cs hc
 rw [xW _ (l:=vals (l.length+w7 t) (ext q (Fi l) l.length t) q) fun g hg=>?_] at this
 ·exact Bool.false_ne_true this
 ·rcases Sh.mp hg with hg|hg
  ·exact sc g hg
  ·obtain ⟨i,hi,rfl⟩:=Tg.mp hg
   show 0≤0+dot (unit (q.length+i)) (vals _ _ q)
   rw [lb,vals,uV,ro ho];omega
@[reducible] noncomputable def al:Nat→(List Nat→Prop)→Prop
| 0,P=>P []
| n+1,P=>∀ ⦃x⦄,al n fun l=>P (x::l)
@[reducible] noncomputable def zl:Nat→(List Int→Prop)→Prop
| 0,P=>P []
| n+1,P=>∀ ⦃x⦄,zl n fun l=>P (x::l)
theorem IJ (n:Nat):∀ {P:List Nat→Prop},(∀ l,l.length=n→P l)→al n P:=by
 induction n with
 | zero=>intro P h;exact h [] rfl
 | succ n ih=>intro P h x;exact ih fun l e=>h (x::l) (congrArg (·+1) e)
theorem FQ (n:Nat):∀ {P:List Int→Prop},(∀ l,l.length=n→P l)→zl n P:=by
 induction n with
 | zero=>intro P h;exact h [] rfl
 | succ n ih=>intro P h x;exact ih fun l e=>h (x::l) (congrArg (·+1) e)
@[reducible] noncomputable def FT (n z:Nat) (t:List P) (f:F):Prop:=al n fun l=>zl z fun q=>f.den (ext q (Fi l) n t) q
def tK:Lean.Syntax:=Lean.Unhygienic.run `(tacticSeq| kernel_rfl)
theorem FT.ok {n z:Nat}{t:List P}{f:F}(h:autoParam (check n z t f=true) tK):FT n z t f:=IJ n fun l hl=>FQ z fun q hq=>fm h l q hl hq
end L
noncomputable abbrev aa:=L.N.v 0
noncomputable abbrev aj:=L.N.v 1
noncomputable abbrev az:=L.N.v 2
noncomputable abbrev a7:=L.N.v 3
noncomputable abbrev cM:=L.N.v 4
noncomputable abbrev gh:=L.N.v 5
noncomputable abbrev oP:=L.N.v 6
noncomputable abbrev BM:=L.N.v 7
noncomputable abbrev IU:=L.N.v 8
noncomputable abbrev JL:=L.N.v 9
noncomputable abbrev bc:=L.Z.w 0
noncomputable abbrev mW:=L.Z.w 1
abbrev fF:=L.FT 1 0 []
abbrev jh:=L.FT 2 0 []
abbrev tg:=L.FT 3 0 []
abbrev IV:=L.FT 4 0 []
theorem Lq (n z:Nat) (t:List L.P) (f:L.F) (h:autoParam (L.check n z t f=true) L.tK):L.FT n z t f:=.ok h
theorem wb (f:L.F) (h:autoParam (L.check 0 1 [] f=true) L.tK):L.FT 0 1 [] f:=.ok h
theorem dW (f:L.F) (h:autoParam (L.check 1 0 [] f=true) L.tK):L.FT 1 0 [] f:=.ok h
theorem cS (f:L.F) (h:autoParam (L.check 2 0 [] f=true) L.tK):L.FT 2 0 [] f:=.ok h
theorem dC (f:L.F) (h:autoParam (L.check 3 0 [] f=true) L.tK):L.FT 3 0 [] f:=.ok h
theorem ji (f:L.F) (h:autoParam (L.check 4 0 [] f=true) L.tK):L.FT 4 0 [] f:=.ok h
theorem xD (f:L.F) (h:autoParam (L.check 5 0 [] f=true) L.tK):L.FT 5 0 [] f:=.ok h
theorem xC (f:L.F) (h:autoParam (L.check 1 1 [] f=true) L.tK):L.FT 1 1 [] f:=.ok h
theorem Qp (f:L.F) (h:autoParam (L.check 0 0 [] f=true) L.tK):L.FT 0 0 [] f:=.ok h
theorem av {p:Prop} [Decidable p] (h:autoParam (decide p=true) L.tK):p:=of_decide_eq_true h
end Mine.Internal
namespace Mine.Internal
open L.N renaming k → ae, a → ak, l → dO, h → cD
open L.Z renaming k → aJ, a → cn, s → fy, g → xN, l → BL, h → E7, u → aL
open L.F renaming le → aq, lt → aD, eq → aH, Dy → bM, Dx → cU, Dz → cu, no → bI, an → dB, or → j6, im → ag
open L.P renaming s → b9, r → fO, t → gk, mn → AF, mx → oQ
theorem Mq:tg (ag (aD aj az) (aD (ak aa aj) (ak aa az))):=.ok
theorem Ct:jh (ag (bI (aD aj aa)) (aq aa aj)):=.ok
theorem Mo:L.FT 0 1 [gk bc] (ag (bM (aJ 0) bc) (ag (bM bc (aJ 1000000)) (aq aa (ae 16777216)))):=.ok
theorem yU:L.FT 3 0 [b9 aa (ae 1)] (ag (aH (ak aj aa) (ak az (ae 1))) (ag (aD aj az) (aD a7 aa))):=.ok
theorem yS:L.FT 3 0 [b9 aj (ae 1)] (ag (aH (ak aa aj) (ak az (ae 1))) (ag (aD aa az) (aH (ak (ak aa (ae 1)) a7) (ak az (ae 1))))):=.ok
theorem Ke:L.FT 1 0 [fO aa 256] (cu (cn (aL az) (BL 256 (aL aj))) (aL aa)):=.ok
theorem Kd:jh (aD (ae 0) (ak (ak (ak (ak (ae 2) (ae 4)) aa) aj) (ae 8))):=.ok
theorem Hb:fF (aH (ak (ak (ak (ak (ae 2) (ae 4)) (ak (ae 0) (ae 1))) aa) (ae 8)) (ak (ae 15) aa)):=.ok
theorem Kc:fF (cu (cn (cn (cn (aL aa) (aJ 2)) (aJ 4)) (aJ 1)) (aL (ak aa (ak (ak (ae 2) (ae 4)) (ak (ae 0) (ae 1)))))):=.ok
theorem Kb:fF (cu (cn (aL aa) (aJ 2)) (aL (ak aa (ae 2)))):=.ok
theorem Ka:fF (cu (cn (cn (aL aa) (aJ 2)) (aJ 4)) (aL (ak aa (ak (ae 2) (ae 4))))):=.ok
theorem J9:jh (cu (cn (cn (cn (cn (aL aa) (aJ 2)) (aJ 4)) (aJ 1)) (aL aj)) (aL (ak aa (ak (ak (ak (ae 2) (ae 4)) (ak (ae 0) (ae 1))) aj)))):=.ok
theorem A4:fF (ag (dB (aq (ae 32) aa) (aD aa (ae 127))) (aD aa (ae 256))):=.ok
theorem yO:fF (ag (aq aa (ae 1000000)) (ag (aD (ae 0) aa) (aq aa (ae 1099511627776)))):=.ok
theorem yN:fF (ag (aq aa (ae 1000000)) (ag (aD (ae 0) aa) (cU (aJ 0) (aL aa)))):=.ok
theorem J8:L.FT 0 0 [] (aq (ak (ae 0) (ae 1)) (ak (ae 16777216) (ae 1))):=.ok
theorem DW:L.FT 0 0 [] (aq (ae 1) (ae 16777216)):=.ok
theorem pb:fF (bM (aJ 0) (aL aa)):=.ok
theorem J7:L.FT 1 0 [fO aa 4] (cu (cn (aJ 8) (E7 (aL az) 2)) (aL (ak (ae 8) (cD az 2)))):=.ok
theorem A3:jh (ag (aq aa (ae 10000)) (ag (aD (ae 0) aa) (ag (aH aj aa) (aq aa (ae 1000000))))):=.ok
theorem DV:jh (ag (aq aa (ae 10000)) (ag (aD (ae 0) aa) (ag (aH aj aa) (aD (ae 0) aa)))):=.ok
theorem yL:fF (ag (aq aa (ae 10000)) (ag (aq (ae 18) aa) (aq aa (ae 1000000)))):=.ok
theorem J6:fF (aH (ak (dO 4 aa) (ae 4)) (dO 4 (ak aa (ae 1)))):=.ok
theorem mN:tg (ag (aq (ak aa (ak az (ae 1))) aj) (aD aa aj)):=.ok
theorem Gx:L.FT 1 0 [b9 (ae 32) aa] (ag (aq aa (ae 3)) (aH (ak aa aj) (ae 32))):=.ok
theorem Gq:fF (ag (aq aa (ae (2 ^ 32))) (aD aa (ae (2 ^ 64)))):=.ok
theorem pa:tg (ag (aH aj az) (ag (aD aa az) (aD aa aj))):=.ok
theorem A2:tg (ag (aq (ak aa (ak aj (ae 1))) az) (aq (ak (ak aa (ae 1)) aj) az)):=.ok
theorem DT:jh (aH (ak aa (ak aj (ae 1))) (ak (ak aa (ae 1)) aj)):=.ok
theorem Gg:fF (aH (ak (ae 2) (dO 2 aa)) (dO 2 (ak aa (ae 1)))):=.ok
theorem wX:jh (ag (bI (aH aa aj)) (bI (cu (aL aa) (aL aj)))):=.ok
theorem DS:fF (cu (E7 (aL aa) 256) (aL (cD aa 256))):=.ok
theorem DR:fF (ag (aq aa (ae 20)) (aq (cD aa 256) (ae 100000))):=.ok
theorem Hj:fF (aq (ak (ae 0) aa) aa):=.ok
theorem yW:fF (ag (aq aa (ae 3)) (bM (aJ 0) (aL aa))):=.ok
theorem yV:fF (ag (aq aa (ae 3)) (bM (aL aa) (aJ 1000000))):=.ok
theorem Hi:fF (cu (cn (aJ 4) (aL aa)) (aL (ak (ae 4) aa))):=.ok
theorem C6:jh (ag (aq aa (ae 8)) (ag (cu (aL aj) (aL aa)) (aq aa (ae 1000000)))):=.ok
theorem yT:L.FT 0 0 [] (aq (ae 0) (ae 100000)):=.ok
theorem vu:L.FT 2 1 [fO aj 4] (ag (aH a7 aa) (ag (cu bc (aL aa)) (bM (aJ 0) (aL aa)))):=.ok
theorem C5:L.FT 2 1 [fO aj 4] (ag (aH a7 aa) (ag (cu bc (aL aa)) (cU (aL aa) (aJ (2 ^ 63))))):=.ok
theorem C4:L.FT 3 1 [fO az 4] (ag (aH aj (ae 4)) (ag (aH cM aa) (ag (cu bc (aL aa)) (aD aa aj)))):=.ok
theorem C3:L.FT 3 1 [fO az 4] (ag (aH aj (ae 4)) (ag (aH cM aa) (ag (cu bc (aL aa)) (cU (aL aa) (aL aj))))):=.ok
theorem C2:fF (ag (bI (aH aa (ae 0))) (bI (cu (aL aa) (aJ 0)))):=.ok
theorem C1:jh (cu (cn (cn (aL aa) (aJ 15)) (aL aj)) (aL (ak (ak aa (ae 15)) aj))):=.ok
theorem Hh:jh (aH (ak aa (ak (ae 15) aj)) (ak (ak aa (ae 15)) aj)):=.ok
theorem Hg:L.FT 0 0 [] (aq (dO 2 (ae 4)) (ae 8)):=.ok
theorem C0:L.FT 0 1 [] (ag (cU (aJ 0) bc) (bM (aJ 0) bc)):=.ok
theorem CZ:L.FT 0 1 [] (ag (cU (aJ 0) bc) (bI (cu bc (aJ 0)))):=.ok
theorem CY:L.FT 1 1 [gk bc] (ag (dB (bM (aJ 0) bc) (cU bc (aJ 6))) (ag (aH aa (ae 6)) (aD aj aa))):=.ok
theorem CX:IV (ag (aH aj (ae 1)) (ag (aH az (ae 0)) (aH (ak (ak (ak aa aj) az) a7) (ak aa (ak a7 (ae 1)))))):=.ok
theorem CW:fF (ag (aq aa (ae 10000)) (bI (aD (ae 16777216) (ak (ae 0) aa)))):=.ok
theorem Hf:fF (aq aa (ak aa (ae 1))):=.ok
theorem He:jh (aq aa (ak aa aj)):=.ok
theorem CV:fF (ag (dB (aq (ae 32) aa) (aD aa (ae 127))) (aD aa (ae 1114112))):=.ok
theorem CU:jh (ag (aq aa (ae 1000)) (ag (cu (aL aj) (aL aa)) (ag (aD (ae 1) aa) (aq aa (ae 1000000))))):=.ok
theorem Hd:fF (aD (ae 0) (ak (ak (ak (ak (ae 0) (ae 1)) (ae 4)) (ae 2)) aa)):=.ok
theorem CT:fF (ag (aD aa (ae (2 ^ 64))) (ag (aD (ae 0) aa) (bI (cu (aL aa) (aJ 0))))):=.ok
theorem CS:fF (ag (aD aa (ae (2 ^ 64))) (ag (aD (ae 0) aa) (bI (aH aa (ae 0))))):=.ok
theorem CR:jh (aH (ak (ak aa (ae 1)) aj) (ak aa (ak aj (ae 1)))):=.ok
theorem CQ:L.FT 1 0 [gk (fy (aJ 32) (aL aa)),b9 (ae 32) aa] (ag (aq aa (ae 32)) (aH aj az)):=.ok
theorem Hc:L.FT 0 0 [oQ (ae 0) (ae 0),oQ (ae 0) aa] (aq (ak aj (ae 1)) (ae 1)):=.ok
theorem yR:fF (ag (aq aa (ae 1)) (aq (ak aa (ae 1)) (ae 64))):=.ok
theorem Ha:L.FT 1 0 [fO (dO 2 aa) 2] (aH aj aa):=.ok
theorem G9:L.FT 1 0 [fO (ak (dO 2 aa) (ae 1)) 2] (aH aj aa):=.ok
theorem CP:L.FT 2 0 [b9 aa aj,b9 aa (ak aj (ae 1))] (ag (aD aj aa) (aH az (ak a7 (ae 1)))):=.ok
theorem G8:jh (aH (ak aa (ak aa aj)) (ak (cD aa 2) aj)):=.ok
theorem CO:tg (ag (aq az (ak aj (ae 1))) (ag (aD aa az) (aq aa aj))):=.ok
theorem CN:fF (ag (aD (ae 0) aa) (ag (aq aa (ae 1000)) (aq aa (ae 1099511627776)))):=.ok
theorem G7:L.FT 0 0 [] (bM (aJ 0) (aJ 0)):=.ok
theorem G6:L.FT 0 0 [] (bM (aJ 0) (aJ 1000000)):=.ok
theorem CM:L.FT 5 0 [b9 az aa,AF a7 gh] (ag (aD aj a7) (ag (aH cM a7) (ag (aD aj oP) (aD (ak aa aj) az)))):=.ok
theorem CL:jh (cu (cn (aL aa) (aL aj)) (aL (ak aa aj))):=.ok
theorem G5:L.FT 2 0 [b9 aa aj,AF aa (ak aj az)] (aH a7 aa):=.ok
theorem G4:L.FT 3 0 [b9 aa aj,AF aa (ak aj a7),b9 (ak aj a7) (ak aa az),oQ aj (ak aa az)] (aq (ak (ak cM az) gh) oP):=.ok
theorem vt:fF (ag (aq aa (ae 1000)) (cU (xN (aJ (2 ^ 64))) (aL aa))):=.ok
theorem vr:fF (ag (aq aa (ae 1000)) (cU (aL aa) (aJ (2 ^ 64)))):=.ok
theorem vq:fF (aH (ak (ak (ak (ae 0) (ae 1)) aa) (ae 8)) (ak (ae 9) aa)):=.ok
theorem CK:jh (ag (aq (ak aa (ak aj (ae 1))) (ae 1000)) (aq aa (ae 1000000))):=.ok
theorem G3:fF (cu (cn (aL aa) (aJ 1)) (aL (ak aa (ak (ae 0) (ae 1))))):=.ok
theorem G2:jh (cu (cn (cn (aL aa) (aJ 1)) (aL aj)) (aL (ak aa (ak (ak (ae 0) (ae 1)) aj)))):=.ok
theorem vp:jh (ag (aq aa (ae 10000)) (ag (aH aj aa) (aq aa (ae 1000000)))):=.ok
theorem G1:jh (cu (cn (cn (cn (aL aa) (aJ 1)) (aL aj)) (aJ 8)) (aL (ak (ak aa (ae 9)) aj))):=.ok
theorem CJ:jh (ag (aq (ak aa (ak aj (ae 1))) (ae 1000)) (aq (ak (ak aa (ak (ae 0) (ae 1))) aj) (ae 1000))):=.ok
theorem CH:fF (ag (aq aa (ae 1000)) (aD aa (ae (256 ^ 2)))):=.ok
theorem CG:L.FT 1 1 [] (ag (aq aa (ae 1000)) (ag (cu bc (aL aa)) (aq (ak (ae 0) aa) (ae 1000)))):=.ok
theorem CF:L.FT 1 1 [] (ag (aq aa (ae 1000)) (ag (cu bc (aL aa)) (bM (xN (aJ (2 ^ 62))) (aL aa)))):=.ok
theorem CE:L.FT 1 1 [] (ag (aq aa (ae 1000)) (ag (cu bc (aL aa)) (cU (aL aa) (aJ (2 ^ 62))))):=.ok
theorem G0:L.FT 1 0 [gk (BL 8 (aL (ak (ae 0) aa)))] (aH aj (dO 8 aa)):=.ok
theorem GZ:fF (bM (aJ 0) (BL 8 (aL aa))):=.ok
theorem CD:jh (ag (aq aj (ae 8)) (ag (aq aa aj) (aq aa (ae 100)))):=.ok
theorem yQ:jh (ag (aq aj (ae 3)) (ag (aq aa aj) (aD aa (ae 256)))):=.ok
theorem CC:jh (ag (aD aa (ak (ae 0) aj)) (aD aa aj)):=.ok
theorem CB:IV (ag (aq aj (ae 8)) (ag (aD az aj) (ag (aH a7 aj) (ag (dB (aq (ae 4) aa) (aD aa (ak (ae 4) aj))) (aq aa (ae 20)))))):=.ok
theorem vo:L.FT 1 1 [] (ag (dB (cu (cn (aJ 1) bc) (aL aa)) (dB (aq (ae 1) aa) (aq aa (ae 3)))) (aq aa (ae 20))):=.ok
theorem ju:tg (ag (aD aa az) (ag (aH aj az) (aD aa aj))):=.ok
theorem yP:jh (ag (aq (ak aa (ae 1)) aj) (aq aa aj)):=.ok
theorem GY:jh (aD aa (ak aa (ak aj (ae 1)))):=.ok
theorem GX:jh (aH (ak aa (dO 2 (ak aj (ae 1)))) (ak (ak aa (ae 2)) (dO 2 aj))):=.ok
theorem vn:jh (ag (aD aa (ak aj (ae 1))) (ag (bI (aH aa aj)) (aD aa aj))):=.ok
theorem GW:tg (aH (ak (ak (ak aa (ae 15)) aj) az) (ak aa (ak (ak (ae 15) aj) az))):=.ok
theorem GV:L.FT 2 0 [fO aj 4] (aH (ak (cD aa 256) (ak (ae 8) (cD a7 2))) (ak (ak (cD aa 256) (ae 8)) (dO 2 a7))):=.ok
theorem GU:jh (aD aa (ak (ak aa (ae 15)) aj)):=.ok
theorem GS:jh (aq (ak aa (ae 15)) (ak (ak aa (ae 15)) aj)):=.ok
theorem jt:fF (ag (aq (ae 16) aa) (bI (aH aa (ae 0)))):=.ok
theorem CA:tg (ag (bI (aH aa (ae 0))) (ag (bI (aH aj az)) (bI (aH aa (ae 0))))):=.ok
theorem GR:fF (aq aa aa):=.ok
theorem Cz:tg (ag (aq (ak aa (ak (ak (ae 15) aj) az)) (ae 256)) (aq (ak (ak (ak aa (ae 15)) aj) az) (ae 256))):=.ok
theorem Cy:tg (ag (aq (ak aa (ak (ak (ae 15) aj) az)) (ae 256)) (aq (ak aa (ak (ae 15) aj)) (ae 256))):=.ok
theorem Cw:tg (aH (ak (cD aa 256) (ak (ak aj (ae 15)) az)) (ak (ak (cD aa 256) aj) (ak (ae 15) az))):=.ok
theorem Cv:IV (ag (aH aj a7) (ag (aq (ak a7 (ae 15)) az) (aq (ak (ak (cD aa 256) aj) (ae 2)) (ak (cD aa 256) az)))):=.ok
theorem GQ:jh (aH (ak (ak aa (ae 9)) aj) (ak aa (ak (ae 9) aj))):=.ok
theorem Cu:fF (bI (aH (ak aa (ae 1)) aa)):=.ok
theorem GP:fF (bI (aH (ak aa (ae 2)) (ak aa (ae 4)))):=.ok
theorem GO:fF (bI (aH (ak aa (ae 3)) (ak aa (ae 4)))):=.ok
theorem GN:fF (bI (aH aa (ak aa (ae 4)))):=.ok
theorem GL:fF (bI (aH (ak aa (ae 1)) (ak aa (ae 4)))):=.ok
theorem GK:fF (bI (aH (ak aa (ae 2)) (ak aa (ae 3)))):=.ok
theorem GJ:fF (bI (aH (ak aa (ae 2)) aa)):=.ok
theorem GI:fF (bI (aH (ak aa (ae 2)) (ak aa (ae 1)))):=.ok
theorem GH:fF (bI (aH (ak aa (ae 3)) aa)):=.ok
theorem GG:fF (bI (aH aa (ak aa (ae 1)))):=.ok
theorem Mp:fF (bI (cU (aL aa) (aJ 0))):=.ok
theorem GF:L.FT 2 0 [b9 aa aj] (aq az az):=.ok
theorem pP:jh (ag (bI (aq aj aa)) (aq aa aj)):=.ok
theorem Cs:L.FT 1 1 [gk bc] (ag (dB (bM (aJ 0) bc) (cU bc (aJ 4))) (ag (aH aj aa) (aD aa (ae 4)))):=.ok
theorem Cr:IV (ag (aq az (ae 6)) (ag (aH a7 (ak (ak aj (ae 15)) az)) (ag (aq aa aj) (aq aa (ak (ak aj (ae 15)) az))))):=.ok
theorem GD:L.FT 1 0 [gk (aL aa)] (cu (cn (aJ 4) (aL aa)) (aL (ak (ae 4) aj))):=.ok
theorem yM:tg (ag (aq aj (ae 8)) (ag (aD aa aj) (ag (aH az aj) (cU (aL aa) (aJ (2 ^ 63)))))):=.ok
theorem GC:jh (cu (cn (E7 (aL aa) 256) (aL aj)) (aL (ak (cD aa 256) aj))):=.ok
theorem Cq:jh (ag (aD aa aj) (aD aa aj)):=.ok
theorem Cp:jh (ag (aq aa aj) (aq aa aj)):=.ok
theorem GB:fF (aD aa (ak aa (ae 1))):=.ok
theorem Co:L.FT 2 0 [b9 aa (ae 1)] (ag (aH aa (ak aj (ae 1))) (aH az aj)):=.ok
theorem yK:jh (ag (aH aa aj) (aq aa aj)):=.ok
theorem GA:L.FT 1 0 [b9 aa (ae 0)] (aH aj aj):=.ok
theorem rQ:tg (ag (aD aa az) (ag (aD az aj) (aD aa aj))):=.ok
theorem Cm:tg (ag (aq aa az) (ag (aq az aj) (aq aa aj))):=.ok
theorem Ck:L.FT 3 0 [b9 aa az] (ag (aq az aa) (ag (aq a7 (ae 0)) (ag (aq az aj) (aq aa aj)))):=.ok
theorem Cj:L.FT 3 0 [fO (ak aj az) 2] (ag (aD aa (ak a7 (ae 1))) (ag (bI (aH aa a7)) (aD aa a7))):=.ok
theorem Ci:L.FT 3 0 [fO (ak aa aj) 2] (ag (aq a7 az) (ag (bI (aH az a7)) (aD a7 az))):=.ok
theorem Gz:L.FT 1 0 [b9 aa (ae 0)] (aq aj aa):=.ok
theorem Cg:IV (ag (aH az aj) (ag (aH a7 az) (ag (aD aa az) (aD aa aj)))):=.ok
theorem Cf:L.FT 2 0 [b9 aa (ae 1)] (ag (aD aa aj) (ag (aq (ae 1) aa) (aD az aj))):=.ok
theorem Ce:L.FT 2 0 [b9 aj (ae 1)] (ag (aD aa aj) (ag (aq (ae 1) aj) (ag (bI (aH aa az)) (aD aa az)))):=.ok
theorem Cd:L.FT 1 0 [b9 aa (ae 1)] (ag (aq (ae 1) aa) (aD aj aa)):=.ok
theorem yJ:L.FT 3 0 [b9 aa (ae 1)] (ag (aq (ae 1) aa) (ag (aq (ak aa (ak az (ae 1))) aj) (aD a7 aj))):=.ok
theorem Cc:L.FT 1 0 [b9 aa (ae 1)] (ag (aq (ae 1) aa) (bI (aH aa aj))):=.ok
theorem Cb:jh (aq aa (ak aa (ak aj (ae 1)))):=.ok
theorem Ca:tg (ag (aq aa (ak (ak aj (ae 1)) az)) (aq aa (ak aj (ak az (ae 1))))):=.ok
theorem rP:L.FT 3 0 [b9 aa (ae 1)] (ag (aq (ae 2) aa) (ag (aq (ak aa (ak az (ae 1))) aj) (aD a7 aj))):=.ok
theorem B9:L.FT 1 0 [b9 aa (ae 1)] (ag (aq (ae 2) aa) (bI (aH aa aj))):=.ok
theorem B8:fF (ag (aq (ae 1) aa) (aD (ae 0) aa)):=.ok
theorem Gy:L.FT 0 0 [] (bI (aD (ae 0) (ae 0))):=.ok
theorem B7:L.FT 2 0 [b9 aj (ak (ae 1) (ae 1))] (ag (aq (ae 1) aj) (ag (bI (aH (ae 1) aj)) (ag (aq aa (ak (ak (ae 1) (ae 1)) az)) (aq aa aj)))):=.ok
theorem vl:L.FT 4 0 [fO (ak aa aj) 2] (ag (aD a7 az) (ag (aq aj a7) (ag (bI (aq aj aa)) (aD cM az)))):=.ok
theorem B6:L.FT 3 0 [fO (ak aj az) 2] (ag (aq az aa) (ag (bI (aq az aj)) (bI (aH aa a7)))):=.ok
theorem yI:tg (ag (aH (ak aa (ak az (ae 1))) aj) (aD aa aj)):=.ok
theorem Gw:fF (cu (cn (aJ 0) (E7 (aL aa) 1)) (aL aa)):=.ok
theorem Gv:fF (cu (BL 4 (cn (aL aa) (aJ 1))) (cn (aL (dO 4 aa)) (aL (ae 4)))):=.ok
theorem Gu:fF (cu (BL 4 (aL aa)) (aL (dO 4 aa))):=.ok
theorem Gs:L.FT 1 0 [gk (cn (aJ 33) (aL aa))] (aH aj (ak (ae 33) aa)):=.ok
theorem Gr:fF (bM (aJ 0) (cn (aJ 33) (aL aa))):=.ok
theorem pO:fF (ag (aH aa (ae 256)) (aD (ae 0) aa)):=.ok
theorem B5:L.FT 0 0 [] (aq (ae 256) (ae 10000)):=.ok
theorem Gp:L.FT 0 0 [] (aD (ae 0) (ae 256)):=.ok
theorem B4:L.FT 1 0 [AF (ae 18) aa] (ag (aH aa (ae 256)) (aq aj (ae 10000))):=.ok
theorem B3:L.FT 0 0 [] (aq (ak (ae 0) (ak (ak (ak (ak (ak (ak (ae 0) (ae 1)) (ak (ae 0) (ae 1))) (ae 4)) (ae 4)) (ae 4)) (ae 4))) (ae 18)):=.ok
theorem B2:L.FT 0 1 [gk bc] (ag (bM (aJ 0) bc) (ag (cU bc (aJ 4294967296)) (aD aa (ae (2 ^ 32))))):=.ok
theorem Gn:fF (aD (ae 0) (ak (ak (ak (ak (ak (ak aa (ae 1)) (ak aa (ae 1))) (ae 4)) (ae 4)) (ae 4)) (ae 4))):=.ok
theorem Gm:L.FT 0 0 [] (cu (aJ 1) (aL (ak (ae 0) (ak (ae 0) (ae 1))))):=.ok
theorem Gk:L.FT 0 0 [] (cu (cn (aJ 1) (aJ 1)) (aL (ak (ae 0) (ak (ak (ae 0) (ae 1)) (ak (ae 0) (ae 1)))))):=.ok
theorem Gj:L.FT 0 0 [] (cu (cn (cn (aJ 1) (aJ 1)) (aJ 4)) (aL (ak (ae 0) (ak (ak (ak (ae 0) (ae 1)) (ak (ae 0) (ae 1))) (ae 4))))):=.ok
theorem Gi:L.FT 0 0 [] (cu (cn (cn (cn (aJ 1) (aJ 1)) (aJ 4)) (aJ 4)) (aL (ak (ae 0) (ak (ak (ak (ak (ae 0) (ae 1)) (ak (ae 0) (ae 1))) (ae 4)) (ae 4))))):=.ok
theorem Gh:L.FT 0 0 [] (cu (cn (cn (cn (cn (aJ 1) (aJ 1)) (aJ 4)) (aJ 4)) (aJ 4)) (aL (ak (ae 0) (ak (ak (ak (ak (ak (ae 0) (ae 1)) (ak (ae 0) (ae 1))) (ae 4)) (ae 4)) (ae 4))))):=.ok
end Mine.Internal
namespace Mine.Internal
open PySem PySem.W PySem.Calls PyProof.Rows PyProof.V PySem.Spec
theorem in1 {α:Type}{a b:α}{l:List α}:b∈a::b::l:=.tail _ (.head _)
theorem Dd {α:Type}{a b c:α}{l:List α}:c∈a::b::c::l:=.tail _ in1
theorem Bb {α:Type}{a b c d:α}{l:List α}:d∈a::b::c::d::l:=.tail _ Dd
theorem in4 {α:Type}{a b c d e:α}{l:List α}:e∈a::b::c::d::e::l:=.tail _ Bb
theorem Jj {α:Type}{a b c d e f:α}{l:List α}:f∈a::b::c::d::e::f::l:=.tail _ in4
theorem dj {α β:Type}{b:β}{f:α→β}{l:List α}(h:b∈l.map f):∃ a,a∈l∧f a=b:=Tg.mp h
theorem fV {α β:Type}{b:β}{f:α→β}{l:List α}(h:∃ a,a∈l∧f a=b):b∈l.map f:=Tg.mpr h
theorem bS {α:Type}{a b:α}{l:List α}(h:a∈b::l):a=b∨a∈l:=R1.mp h
theorem bq {α:Type}{a b:α}(h:a∈[b]):a=b:=QO.mp h
theorem i9 {α:Type}{a:α}{l r:List α}(h:a∈l++r):a∈l∨a∈r:=Sh.mp h
theorem jz {α:Type}{a:α}{p:α→Bool}{l:List α}(h:a∈l.filter p):a∈l∧p a=true:=Sx.mp h
theorem rO {α β:Type}{b:β}{f:α→β}{o:Option α}(h:o.map f=Option.some b):∃ a,o=Option.some a∧f a=b:=Td.mp h
theorem g7 {α:Type}{a:α}{l:List α}{i:Nat}(h:l[i]?=Option.some a):∃ h:i<l.length,l[i]=a:=List.getElem?_eq_some_iff.mp h
theorem dP {α:Type}{x:Option α}{a:α}{C:Prop}(h:x=Option.none) (q:x=Option.some a):C:=nomatch h.symm.trans q
theorem ig {α:Type}{x:Option α}{a b:α}(h:x=Option.some a) (q:x=Option.some b):a=b:=Option.some.inj (h.symm.trans q)
theorem AA {α:Type}{P:α→Prop}:∀ x∈([]:List α),P x:=fun _ h=>nomatch h
theorem gU {α:Type}{P:α→Prop}{a:α}{l:List α}(h:P a) (k:∀ x∈l,P x):∀ x∈a::l,P x:=fun x hx=>(bS hx).elim (fun e=>e▸h) (k x)
theorem hide {G:Prop}(k:∀ H:Prop,(G→H)→H):G:=k G id
def bG:Lean.Syntax:=Lean.Unhygienic.run `(tacticSeq| decide)
def cw:Lean.Syntax:=Lean.Unhygienic.run `(tacticSeq| (intro _;rfl))
def qq:Lean.Syntax:=Lean.Unhygienic.run `(tacticSeq| (intro _ _;rfl))
def wy:Lean.Syntax:=Lean.Unhygienic.run `(tacticSeq| with_unfolding_all rfl)
def IZ:Lean.Syntax:=Lean.Unhygienic.run `(tacticSeq| (intro _;exact ⟨_,_,rfl⟩))
def DD:Lean.Syntax:=Lean.Unhygienic.run `(tacticSeq| (intro _ _;exact ⟨_,rfl⟩))
def FY:Lean.Syntax:=Lean.Unhygienic.run `(tacticSeq| first|decide|simp)
set_option genCtorIdx false in
inductive D where
 | none|bool (b:Bool)|int (i:Int)|str (x:Qy)|bytes (b:Array UInt8)
 | tup (ds:List D)|list (ds:List D)|NU (ns:List Int)|inst (c:Nat) (ds:List D)|ext (k:Nat)
@[reducible] noncomputable def D.ctorIdx (d:D):Nat:=D.casesOn d 0 (fun _=>1) (fun _=>2) (fun _=>3) (fun _=>4) (fun _=>5) (fun _=>6) (fun _=>7) (fun _ _=>8) fun _=>9
set_option genCtorIdx false in
inductive En where
 | val (d:D)|own (ds:List D)|obj (c:Nat) (ds:List D)|raw (Φ:List (Qt×R3)→Qr→Prop)
@[reducible] noncomputable def En.ctorIdx (d:En):Nat:=En.casesOn d (fun _=>0) (fun _=>1) (fun _ _=>2) fun _=>3
abbrev GM:=Qt→Option R3
inductive FieldsAt:List Qy→List RK→List Qr→Prop
 | nil (l:List Qy):FieldsAt l [] []
 | cons {nm:Qy}{l:List Qy}{h:Int}{t:UN}{v:Qr}{es:List RK}{vs:List Qr}:FieldsAt l es vs→FieldsAt (nm::l) (⟨h,.str nm t,v⟩::es) (v::vs)
mutual
inductive Rep (g:GM) (vw:Nat→Option Qt):Qr→D→Prop
 | none:Rep g vw .none .none
 | bool (b:Bool):Rep g vw (.bool b) (.bool b)
 | int (i:Int) (t:UN):Rep g vw (.int i t) (.int i)
 | str (x:Qy) (t:UN):Rep g vw (.str x t) (.str x)
 | bytes (b:Array UInt8) (t:UN):Rep g vw (.bytes b t) (.bytes b)
 | tup {a:Qt}{ob:R3}{vs:List Qr}{n:Nat}{ds:List D}:g a=some ob→ob.cls=.type "tuple"→ob.data=.seq vs.toArray n→aB g vw vs ds→Rep g vw (.ref a) (.tup ds)
 | list {a:Qt}{ob:R3}{vs:List Qr}{n:Nat}{ds:List D}:g a=some ob→ob.cls=.type "list"→ob.data=.seq vs.toArray n→aB g vw vs ds→Rep g vw (.ref a) (.list ds)
 | inst {a dx:Qt}{c:Nat}{es:List RK}{n:Nat}{sl:Array (Option Qr)} {vs:List Qr}{ds:List D} :
   g a=some ⟨.ref (ra c),some dx,.plain,sl⟩→g dx=some (Sv es n)→FieldsAt (eE c) es vs→aB g vw vs ds→Rep g vw (.ref a) (.inst c ds)
 | ext {a:Qt}{k:Nat}:vw k=some a→Rep g vw (.ref a) (.ext k)
inductive aB (g:GM) (vw:Nat→Option Qt):List Qr→List D→Prop
 | nil:aB g vw [] []
 | cons {v:Qr}{vs:List Qr}{d:D}{ds:List D}:Rep g vw v d→aB g vw vs ds→aB g vw (v::vs) (d::ds)
end
section
variable {g g':GM}{vw:Nat→Option Qt}
theorem Rep.mono (hs:∀ a ob,g a=some ob→g' a=some ob) {v:Qr}{d:D}(h:Rep g vw v d):Rep g' vw v d :=
 Rep.rec (motive_1:=fun v d _=>Rep g' vw v d) (motive_2:=fun vs ds _=>aB g' vw vs ds) .none .bool .int .str .bytes (fun h1 h2 h3 _ r=>.tup (hs _ _ h1) h2 h3 r) (fun h1 h2 h3 _ r=>.list (hs _ _ h1) h2 h3 r) (fun h1 h2 h3 _ r=>.inst (hs _ _ h1) (hs _ _ h2) h3 r) .ext .nil (fun _ _ h r=>.cons h r) h
theorem aB.mono (hs:∀ a ob,g a=some ob→g' a=some ob) {vs:List Qr}{ds:List D}(h:aB g vw vs ds):aB g' vw vs ds :=
 aB.rec (motive_1:=fun v d _=>Rep g' vw v d) (motive_2:=fun vs ds _=>aB g' vw vs ds) .none .bool .int .str .bytes (fun h1 h2 h3 _ r=>.tup (hs _ _ h1) h2 h3 r) (fun h1 h2 h3 _ r=>.list (hs _ _ h1) h2 h3 r) (fun h1 h2 h3 _ r=>.inst (hs _ _ h1) (hs _ _ h2) h3 r) .ext .nil (fun _ _ h r=>.cons h r) h
inductive SeqIn (g:GM) (vw:Nat→Option Qt) (T:String) (ds:List D) (v:Qr):Prop
 | mk (a:Qt) (ob:R3) (vs:List Qr) (n:Nat) (e:v=.ref a) (h1:g a=some ob) (h2:ob.cls=.type T) (h3:ob.data=.seq vs.toArray n) (h4:aB g vw vs ds)
inductive Am (g:GM) (vw:Nat→Option Qt) (c:Nat) (ds:List D) (v:Qr):Prop
 | mk (a dx:Qt) (es:List RK) (n:Nat) (sl:Array (Option Qr)) (vs:List Qr) (e:v=.ref a) (h1:g a=some ⟨.ref (ra c),some dx,.plain,sl⟩) (h2:g dx=some (Sv es n)) (h3:FieldsAt (eE c) es vs) (h4:aB g vw vs ds)
noncomputable def L5 (g:GM) (vw:Nat→Option Qt) (v:Qr):D→Prop
 | .none=>v=.none
 | .bool b=>v=.bool b
 | .int i=>∃ t,v=.int i t
 | .str x=>∃ t,v=.str x t
 | .bytes b=>∃ t,v=.bytes b t
 | .tup ds=>SeqIn g vw "tuple" ds v
 | .list ds=>SeqIn g vw "list" ds v
 | .inst c ds=>Am g vw c ds v
 | .ext k=>∃ a,v=.ref a∧vw k=some a
 | _=>True
theorem Rep.inv {v:Qr}{d:D}(h:Rep g vw v d):L5 g vw v d:=by
 cases h with
 | none=>rfl
 | bool b=>rfl
 | int i t=>exact ⟨t,rfl⟩
 | str i t=>exact ⟨t,rfl⟩
 | bytes i t=>exact ⟨t,rfl⟩
 | tup h1 h2 h3 r=>exact ⟨_,_,_,_,rfl,h1,h2,h3,r⟩
 | list h1 h2 h3 r=>exact ⟨_,_,_,_,rfl,h1,h2,h3,r⟩
 | inst h1 h2 h3 r=>exact ⟨_,_,_,_,_,_,rfl,h1,h2,h3,r⟩
 | ext h=>exact ⟨_,rfl,h⟩
theorem Rep.tu {v:Qr}(h:Rep g vw v .none):v=.none:=h.inv
theorem Rep.xX {v:Qr}{b:Bool}(h:Rep g vw v (.bool b)):v=.bool b:=h.inv
theorem Rep.bZ {v:Qr}{i:Int}(h:Rep g vw v (.int i)):∃ t,v=.int i t:=h.inv
theorem Rep.j9 {v:Qr}{i:Qy}(h:Rep g vw v (.str i)):∃ t,v=.str i t:=h.inv
theorem Rep.fA {v:Qr}{i:Array UInt8}(h:Rep g vw v (.bytes i)):∃ t,v=.bytes i t:=h.inv
theorem Rep.uZ {v:Qr}{ds:List D}(h:Rep g vw v (.tup ds)):SeqIn g vw "tuple" ds v:=h.inv
theorem Rep.dp {v:Qr}{ds:List D}(h:Rep g vw v (.list ds)):SeqIn g vw "list" ds v:=h.inv
theorem Rep.DA {v:Qr}{c:Nat}{ds:List D}(h:Rep g vw v (.inst c ds)):Am g vw c ds v:=h.inv
theorem aB.u0 {vs:List Qr}(h:aB g vw vs []):vs=[]:=by cases h;rfl
inductive Fd (g:GM) (vw:Nat→Option Qt) (d:D) (ds:List D) (vs:List Qr):Prop
 | mk (v:Qr) (ws:List Qr) (e:vs=v::ws) (h:Rep g vw v d) (r:aB g vw ws ds)
theorem aB.jl {vs:List Qr}{d:D}{ds:List D}(h:aB g vw vs (d::ds)):Fd g vw d ds vs:=by cases h with|cons h r=>exact ⟨_,_,rfl,h,r⟩
theorem aB.wi {vs:List Qr}{d:D}(h:aB g vw vs [d]):∃ v,vs=[v]∧Rep g vw v d:=by
 obtain ⟨v,ws,rfl,k,r⟩:=h.jl
 exact ⟨v,congrArg (v::·) r.u0,k⟩
inductive IM (g:GM) (vw:Nat→Option Qt) (d e:D) (vs:List Qr):Prop
 | mk (v w:Qr) (q:vs=[v,w]) (h:Rep g vw v d) (r:Rep g vw w e)
theorem aB.JS {vs:List Qr}{d e:D}(h:aB g vw vs [d,e]):IM g vw d e vs:=by
 obtain ⟨v,ws,rfl,k,r⟩:=h.jl
 obtain ⟨w,rfl,k2⟩:=r.wi
 exact ⟨v,w,rfl,k,k2⟩
theorem aB.length {vs:List Qr}{ds:List D}(h:aB g vw vs ds):vs.length=ds.length:=by
 induction vs generalizing ds with
 | nil=>cases h;rfl
 | cons v vs ih=>cases h with|cons _ r=>rw [QC,QC,ih r]
theorem aB.append {vs ws:List Qr}{ds es:List D}(h:aB g vw vs ds) (k:aB g vw ws es):aB g vw (vs++ws) (ds++es):=by
 induction vs generalizing ds with
 | nil=>cases h;exact k
 | cons v vs ih=>cases h with|cons h r=>exact .cons h (ih r)
theorem aB.one {v:Qr}{d:D}(h:Rep g vw v d):aB g vw [v] [d]:=.cons h .nil
theorem aB.get {vs:List Qr}{ds:List D}(h:aB g vw vs ds) {k:Nat}{d:D}(hk:ds[k]?=some d):∃ v,vs[k]?=some v∧Rep g vw v d:=by
 induction vs generalizing ds k with
 | nil=>cases h;simp at hk
 | cons v vs ih =>
  cases h with
  | cons h r =>
   cases k with
   | zero=>simp only [Ry,Option.some.injEq] at hk ⊢;subst hk;exact ⟨v,rfl,h⟩
   | succ k=>simp only [Sa] at hk ⊢;exact ih r hk
theorem aB.set {vs:List Qr}{ds:List D}(h:aB g vw vs ds) (k:Nat) {v:Qr}{d:D}(hv:Rep g vw v d):aB g vw (vs.set k v) (ds.set k d):=by
 induction vs generalizing ds k with
 | nil=>cases h;exact .nil
 | cons u vs ih =>
  cases h with
  | cons h r =>
   cases k with
   | zero=>exact .cons hv r
   | succ k=>exact .cons h (ih r k)
theorem aB.drop {vs:List Qr}{ds:List D}(h:aB g vw vs ds) (k:Nat):aB g vw (vs.drop k) (ds.drop k):=by
 induction k generalizing vs ds with
 | zero=>simpa using h
 | succ k ih=>cases h with
  | nil=>simpa using aB.nil
  | cons _ r=>simpa using ih r
theorem aB.take {vs:List Qr}{ds:List D}(h:aB g vw vs ds) (k:Nat):aB g vw (vs.take k) (ds.take k):=by
 induction k generalizing vs ds with
 | zero=>simpa using aB.nil
 | succ k ih=>cases h with
  | nil=>simpa using aB.nil
  | cons h r=>simpa using aB.cons h (ih r)
theorem Rep.handed {v:Qr}{d:D}(h:Rep g vw v d):handedIn v=true:=by cases h<;>rfl
end
structure Kept (P:Qt→Prop) (Fs:List Qt) (h h':QL):Prop where
 keep:∀ a o,h.get? a=some o→¬ P a→a∉Fs→h'.get? a=some o
 slot:∀ a o,h.get? a=some o→¬ P a→∃ sl,h'.get? a=some { o with slots:=sl }
theorem Kept.refl (P:Qt→Prop) (Fs:List Qt) (h:QL):Kept P Fs h h:=⟨fun _ _ e _ _=>e,fun _ o e _=>⟨o.slots,e⟩⟩
theorem Kept.of_keeps {P:Qt→Prop}{Fs:List Qt}{h h':QL}(k:∀ b o,h.get? b=some o→h'.get? b=some o):Kept P Fs h h' :=
 ⟨fun a o e _ _=>k a o e,fun a o e _=>⟨o.slots,k a o e⟩⟩
theorem Kept.weaken {P P':Qt→Prop}{Fs NG:List Qt}{h h':QL}(x:Kept P Fs h h') (hp:∀ a o,h.get? a=some o→P a→P' a) (hf:∀ a o,h.get? a=some o→a∈Fs→a∈NG∨P' a):Kept P' NG h h' :=
 ⟨fun a o e p q=>x.keep a o e (fun hh=>p (hp a o e hh)) fun hh=>(hf a o e hh).elim q p,fun a o e p=>x.slot a o e fun hh=>p (hp a o e hh)⟩
noncomputable def lk {α:Type}(ρ:List (Qy×α)) (x:Qy):Option α:=match ρ with
 | []=>none
 | (y,e)::r=>if x=y then Option.some e else lk r x
noncomputable def aS {α:Type}(ρ:List (Qy×α)) (x:Qy) (e:α):List (Qy×α):=match ρ with
 | []=>[(x,e)]
 | (y,e')::r=>if x=y then (y,e)::r else (y,e')::aS r x e
theorem fQ {α:Type}{ρ:List (Qy×α)} {x y:Qy}{e:α}(h:lk ρ y=Option.none) (hx:lk ρ x=Option.some e):x≠y:=fun z=>dP h (z▸hx)
theorem bx {α:Type}(ρ:List (Qy×α)) (x:Qy) (e:α) (z:Qy):lk (aS ρ x e) z=if z=x then Option.some e else lk ρ z:=by
 induction ρ with
 | nil=>rfl
 | cons p r ih =>
  obtain ⟨y,e'⟩:=p
  by_cases h:x=y
  ·subst h
   rw [show aS ((x,e')::r) x e=(x,e)::r from if_pos rfl]
   by_cases hz:z=x
   ·exact (if_pos hz).trans (if_pos hz).symm
   ·exact (if_neg hz).trans ((if_neg hz).trans (if_neg hz)).symm
  ·rw [show aS ((y,e')::r) x e=(y,e')::aS r x e from if_neg h]
   show ite _ _ (lk (aS r x e) z)=ite _ _ (ite _ _ _)
   rw [ih]
   by_cases hz:z=y
   ·exact (if_pos hz).trans ((if_neg fun q=>h (q.symm.trans hz)).trans (if_pos hz)).symm
   ·rw [if_neg hz,if_neg hz]
theorem aR {α:Type}{ρ:List (Qy×α)} {x z:Qy}{e:α}{v:Option α}(h:(if z=x then Option.some e else lk ρ z)=v):lk (aS ρ x e) z=v:=(bx ..).trans h
noncomputable def bh:Qy:=""
structure VI where
 obj:Nat→Option Qt
 mt:List Qt
 fp:List Qt
 sub:∀ a∈mt,a∈fp
 R:QL→Array UInt8→Prop
 lfp:∀ h b,R h b→∀ a∈fp,∃ o,h.get? a=Option.some o
 fj:∀ h h' b,R h b→(∀ a∈fp,∀ o,h.get? a=Option.some o→h'.get? a=Option.some o)→R h' b
structure FD where
 env:TU
 fx:List Qt
 comp:Bool
 pin:List (Qy×Qr)
noncomputable def Mod (V:VI) (f:FD) (o:Qy→List Qt) (a:Qt):Prop:=a∈f.fx∨a∈V.mt∨∃ x,a∈o x
noncomputable def fL (A:QE):List Qt:=(A.frames.getD []).filterMap (·.frame)
noncomputable def cI (h:QL) (env:TU) (x:Qy) (v:Qr):Prop :=
 (env.kindOf x=Option.some .local∧∃ m,h.Ns env.locals m∧m x=Option.some v) ∨
 ((env.kindOf x=Option.some .cell∨env.kindOf x=Option.some .free)∧∃ c,env.cells.lookup x=Option.some c∧h.IsCell c (Option.some v))
noncomputable def lz (g:GM) (vw:Nat→Option Qt) (h:QL) (os:List Qt) (v:Qr):En→Prop
 | .val d=>Rep g vw v d
 | .own ds=>∃ a vs n,v=.ref a∧os=[a]∧h.get? a=Option.some (listOf vs.toArray n)∧aB g vw vs ds
 | .obj c ds=>∃ a dx es n vs sl,v=.ref a∧os=[a,dx]∧a≠dx∧h.get? a=Option.some ⟨.ref (ra c),Option.some dx,.plain,sl⟩∧h.get? dx=Option.some (Sv es n)∧FieldsAt (eE c) es vs∧aB g vw vs ds
 | .raw Φ=>∃ c:List (Qt×R3),os=c.map (·.1)∧(∀ p∈c,h.get? p.1=Option.some p.2)∧Φ c v
noncomputable def tc (B:QL) (A:QE) (h:QL):Prop:=∃ outer,A.frames=Option.some outer∧∀ env∈outer,env.scope.kind=.function∧∃ L ob,env.frame=Option.some L∧h.get? L=Option.some ob∧(∃ es n,ob.data=.dict es n)∧B.get? L=none
inductive PS (g:GM) (vw:Nat→Option Qt) (h:QL) (env:TU) (os:List Qt) (x:Qy) (e:En):Prop
 | mk (v:Qr) (h1:cI h env x v) (h2:lz g vw h os v e)
structure Mg (V:VI) (A:QE) (f:FD) (o:Qy→List Qt) (h:QL) (x:Qy) (c:Qt):Prop where
 c1:c≠f.env.locals
 c2:∃ v,h.IsCell c v
 c3:c∉fL A
 c4:c∉V.fp
 c5:∀ y,c∉o y
 c6:f.comp=false→f.env.kindOf x=Option.some .cell→c∈f.fx
structure FR (B:QL) (V:VI) (A:QE) (f:FD) (g:GM) (o:Qy→List Qt) (ρ:List (Qy×En)) (b:Array UInt8) (s:Qs):Prop where
 bC:∀ a ob,B.get? a=Option.some ob→s.heap.get? a=Option.some ob
 gens:s.gens=#[]
 bf:∀ a ob,g a=Option.some ob→s.heap.get? a=Option.some ob
 lE:∀ a∈fL A,g a=none
 f9:∀ a,Mod V f o a→g a=none
 mB:∀ a,Mod V f o a→B.get? a=none
 fB:∀ a∈fL A,B.get? a=none
 live:∀ a,Mod V f o a→∃ ob,s.heap.get? a=Option.some ob
 dY:∀ x,∀ a∈o x,a∉f.fx∧a∉V.fp
 cX:∀ x y,x≠y→∀ a∈o x,a∉o y
 ic:∀ x,∀ a∈o x,a∉fL A
 uu:∀ a∈f.fx,a∉V.fp
 ry:∀ a∈V.fp,a∉fL A
 view:V.R s.heap b
 vars:∀ x e,lk ρ x=Option.some e→PS g V.obj s.heap f.env (o x) x e
 kind:f.env.scope.kind=.function
 glob:f.env.globals=QY∧f.env.builtins=Ra
 ib:f.env.locals∈f.fx
 kE:∃ m,s.heap.Ns f.env.locals m
 LB:B.objs.size≤f.env.locals
 cells:∀ x c,f.env.cells.lookup x=Option.some c→Mg V A f o s.heap x c
 lg:∀ x,f.env.kindOf x=Option.some .cell→(f.env.cells.lookup x).isSome=true
 rb:∀ x y c,f.env.cells.lookup x=Option.some c→f.env.cells.lookup y=Option.some c→x=y
 da:tc B A s.heap
 eC:lk ρ bh=none
 pin:∀ p∈f.pin,cI s.heap f.env p.1 p.2
structure Step (V:VI) (A:QE) (f:FD) (g:GM) (o:Qy→List Qt) (s:Qs) (g':GM) (o':Qy→List Qt) (s':Qs):Prop where
 kept:Kept (Mod V f o) (fL A) s.heap s'.heap
 iW:∀ a ob,s.heap.get? a=Option.some ob→∃ b0,s'.heap.get? a=Option.some b0
 gm:∀ a ob,g a=Option.some ob→g' a=Option.some ob
 gn:∀ a,g a=none→g' a≠none→(∃ x,a∈o x)∨s.heap.get? a=none
 on:∀ x a,a∈o' x→(∃ y,a∈o y)∨s.heap.get? a=none
 os:s'.os=s.os
theorem Step.refl {V:VI}{A:QE}{f:FD}{g:GM}{o:Qy→List Qt}{s:Qs}:Step V A f g o s g o s :=
 ⟨.refl _ _ _,fun _ _ e=>⟨_,e⟩,fun _ _ e=>e,fun _ e e'=>absurd e e',fun x _ h=>.inl ⟨x,h⟩,rfl⟩
theorem Step.trans {V:VI}{A:QE}{f:FD}{g g' gF:GM}{o o' rl:Qy→List Qt}{s s' dG:Qs}(x:Step V A f g o s g' o' s') (y:Step V A f g' o' s' gF rl dG):Step V A f g o s gF rl dG:=by
 have m:∀ a ob,s.heap.get? a=Option.some ob→Mod V f o' a→Mod V f o a:=fun a ob e h=>by
  rcases h with h|h|⟨z,h⟩
  ·exact .inl h
  ·exact .inr (.inl h)
  ·rcases x.on z a h with h|h
   ·exact .inr (.inr h)
   ·rw [e] at h;cases h
 have gone:∀ a,s'.heap.get? a=none→s.heap.get? a=none:=fun a h=>by
  cases e:s.heap.get? a with
  | none=>rfl
  | some ob =>
   obtain ⟨b0,e'⟩:=x.iW a ob e
   exact dP h e'
 refine ⟨⟨fun a ob e p q=>?_,fun a ob e p=>?_⟩,fun a ob e=>?_,fun a ob e=>y.gm _ _ (x.gm _ _ e),fun a e e'=>?_,fun z a h=>?_,y.os.trans x.os⟩
 ·obtain e1:=x.kept.keep a ob e p q
  exact y.kept.keep a ob e1 (fun h=>p (m a ob e h)) q
 ·obtain ⟨sl,e1⟩:=x.kept.slot a ob e p
  obtain ⟨AO,e2⟩:=y.kept.slot a _ e1 fun h=>p (m a ob e h)
  exact ⟨AO,e2⟩
 ·obtain ⟨b0,e'⟩:=x.iW a ob e
  exact y.iW a b0 e'
 ·cases q:g' a with
  | some ob=>exact x.gn a e (by rw [q];exact fun z=>nomatch z)
  | none =>
   rcases y.gn a q e' with ⟨z,h⟩|h
   ·exact x.on z a h
   ·exact .inr (gone a h)
 ·rcases y.on z a h with ⟨z',h⟩|h
  ·exact x.on z' a h
  ·exact .inr (gone a h)
theorem kQ {h h':QL}{a:Qt}{m:Qy→Option Qr}(hn:h.Ns a m) (hs:∀ ob,h.get? a=some ob→∃ sl,h'.get? a=some { ob with slots:=sl }):h'.Ns a m:=by
 obtain ⟨ob,es,ep,e,hd,r⟩:=hn
 obtain ⟨sl,e'⟩:=hs ob e
 exact ⟨_,es,ep,e',hd,r⟩
theorem tc.slot {B:QL}{A:QE}{h h':QL}(F:tc B A h) (hs:∀ a∈fL A,∀ ob,h.get? a=some ob→∃ b0,h'.get? a=some b0∧((∃ es n,ob.data=.dict es n)→∃ es n,b0.data=.dict es n)):tc B A h':=by
 obtain ⟨outer,e,hk⟩:=F
 refine ⟨outer,e,fun env he=>?_⟩
 obtain ⟨k1,L,ob,k2,k3,k4,k5⟩:=hk env he
 have hL:L∈fL A:=by
  unfold fL
  rw [e]
  exact Ss.mpr ⟨env,he,k2⟩
 obtain ⟨b0,e1,e2⟩:=hs L hL ob k3
 exact ⟨k1,L,b0,k2,e1,e2 k4,k5⟩
theorem tc.dat {B:QL}{A:QE}{h:QL}(F:tc B A h) {a:Qt}(ha:a∈fL A):∃ ob,h.get? a=some ob∧∃ es n,ob.data=.dict es n:=by
 obtain ⟨outer,e,hk⟩:=F
 unfold fL at ha
 rw [e] at ha
 obtain ⟨env,he,hf⟩:=Ss.mp ha
 obtain ⟨_,L,ob,k2,k3,k4,_⟩:=hk env he
 cases ig hf k2
 exact ⟨ob,k3,k4⟩
theorem tc.live {B:QL}{A:QE}{h:QL}(F:tc B A h) {a:Qt}(ha:a∈fL A):∃ ob,h.get? a=some ob:=(F.dat ha).imp fun _ h=>h.1
structure eW (V:VI) (A:QE) (g:GM) (s:Qs) (g':GM) (b':Array UInt8) (s':Qs):Prop where
 kept:Kept (·∈V.mt) (fL A) s.heap s'.heap
 iW:∀ a ob,s.heap.get? a=some ob→∃ b0,s'.heap.get? a=some b0
 gens:s'.gens=#[]
 os:s'.os=s.os
 gm:∀ a ob,g a=some ob→g' a=some ob
 gn:∀ a,g a=none→g' a≠none→s.heap.get? a=none
 bf:∀ a ob,g' a=some ob→s'.heap.get? a=some ob
 view:V.R s'.heap b'
section
variable {B:QL}{V:VI}{A:QE}{f:FD}{g g':GM}{o:Qy→List Qt}{ρ:List (Qy×En)} {b b':Array UInt8}{s s':Qs}
theorem lz.mono {vw:Nat→Option Qt}{h h':QL}{os:List Qt}{v:Qr}{e:En}(x:lz g vw h os v e) (gm:∀ a ob,g a=some ob→g' a=some ob) (k:∀ a∈os,∀ ob,h.get? a=some ob→h'.get? a=some ob):lz g' vw h' os v e:=by
 cases e with
 | val d=>exact Rep.mono gm x
 | own ds =>
  obtain ⟨a,vs,n,h1,h2,h3,h4⟩:=x
  exact ⟨a,vs,n,h1,h2,k a (by rw [h2];exact QO.mpr rfl) _ h3,aB.mono gm h4⟩
 | obj c ds =>
  obtain ⟨a,dx,es,n,vs,sl,h1,h2,h3,h4,h5,h6,h7⟩:=x
  exact ⟨a,dx,es,n,vs,sl,h1,h2,h3,k a (by rw [h2];simp) _ h4,k dx (by rw [h2];simp) _ h5,h6,aB.mono gm h7⟩
 | raw Φ =>
  obtain ⟨c,h1,h2,h3⟩:=x
  exact ⟨c,h1,fun p hp=>k p.1 (by rw [h1];exact fV ⟨p,hp,rfl⟩) _ (h2 p hp),h3⟩
theorem cI.move {h h':QL}{env:TU}{x:Qy}{v:Qr}(y:cI h env x v) (h1:∀ m,h.Ns env.locals m→h'.Ns env.locals m) (h2:∀ c,env.cells.lookup x=some c→∀ ov,h.IsCell c ov→h'.IsCell c ov):cI h' env x v:=by
 rcases y with ⟨k,m,hn,hv⟩|⟨k,c,hc,hv⟩
 ·exact .inl ⟨k,m,h1 m hn,hv⟩
 ·exact .inr ⟨k,c,hc,h2 c hc _ hv⟩
theorem FR.jM (F:FR B V A f g o ρ b s):f.env.locals∉V.mt:=fun h=>F.uu _ F.ib (V.sub _ h)
theorem FR.after (F:FR B V A f g o ρ b s) (P:eW V A g s g' b' s'):FR B V A f g' o ρ b' s':=by
 have ns:∀ m,s.heap.Ns f.env.locals m→s'.heap.Ns f.env.locals m:=fun m hn=>kQ hn fun ob e=>P.kept.slot _ ob e F.jM
 have cl:∀ x c,f.env.cells.lookup x=some c→∀ ov,s.heap.IsCell c ov→s'.heap.IsCell c ov:=fun x c hc ov ⟨ob,e,hd⟩=>⟨ob,P.kept.keep c ob e (fun h=>(F.cells x c hc).c4 (V.sub _ h)) (F.cells x c hc).c3,hd⟩
 have lD:∀ a,(∃ ob,s.heap.get? a=some ob)→g a=none→g' a=none:=fun a hl e=>by
  cases q:g' a with
  | none=>rfl
  | some ob =>
   have:=P.gn a e (by rw [q];exact fun z=>nomatch z)
   obtain ⟨b0,e'⟩:=hl
   exact dP this e'
 refine { bC:=?_,gens:=P.gens,bf:=P.bf,lE:=?_,f9:=?_,mB:=F.mB,fB:=F.fB,live:=?_,dY:=F.dY,cX:=F.cX,ic:=F.ic,uu:=F.uu,ry:=F.ry,view:=P.view,vars:=?_,kind:=F.kind,glob:=F.glob,ib:=F.ib,kE:=?_,LB:=F.LB,cells:=?_,lg:=F.lg,rb:=F.rb,da:=?_,eC:=F.eC,pin:=fun p hp=>(F.pin p hp).move ns (cl p.1) }
 ·intro a ob e
  refine P.kept.keep a ob (F.bC a ob e) (fun h=>?_) fun h=>?_
  ·have:=F.mB a (.inr (.inl h));rw [e] at this;cases this
  ·have:=F.fB a h;rw [e] at this;cases this
 ·exact fun a ha=>lD a (F.da.live ha) (F.lE a ha)
 ·exact fun a ha=>lD a (F.live a ha) (F.f9 a ha)
 ·intro a ha
  obtain ⟨ob,e⟩:=F.live a ha
  exact P.iW a ob e
 ·intro x e hx
  obtain ⟨v,h1,h2⟩:=F.vars x e hx
  refine ⟨v,h1.move ns (cl x),h2.mono P.gm fun a ha ob e=>P.kept.keep a ob e (fun h=>(F.dY x a ha).2 (V.sub _ h)) (F.ic x a ha)⟩
 ·obtain ⟨m,hn⟩:=F.kE
  exact ⟨m,ns m hn⟩
 ·intro x c hc
  have K:=F.cells x c hc
  exact { K with c2:=K.c2.elim fun v h=>⟨v,cl x c hc v h⟩ }
 ·refine F.da.slot fun a ha ob e=>?_
  obtain ⟨sl,e'⟩:=P.kept.slot a ob e fun h=>F.ry a (V.sub _ h) ha
  exact ⟨_,e',fun hd=>hd⟩
theorem eW.step (P:eW V A g s g' b' s'):Step V A f g o s g' o s' :=
 ⟨P.kept.weaken (fun a o _ h=>.inr (.inl h)) fun a o _ h=>.inl h,P.iW,P.gm,fun a e e'=>.inr (P.gn a e e'),fun x a h=>.inl ⟨x,h⟩,P.os⟩
theorem eW.of_keeps {h':QL}{tk:Nat}{dr:S6}(F:FR B V A f g o ρ b s) (k:∀ a ob,s.heap.get? a=some ob→h'.get? a=some ob):eW V A g s g b ⟨h',s.gens,dr,tk,s.os⟩ :=
 ⟨.of_keeps k,fun a ob e=>⟨ob,k a ob e⟩,F.gens,rfl,fun _ _ e=>e,fun a e e'=>absurd e e',fun a ob e=>k _ _ (F.bf a ob e),V.fj _ _ _ F.view fun a _ o e=>k a o e⟩
noncomputable def GM.add (g:GM) (a:Qt) (ob:R3):GM:=fun x=>if x=a then some ob else g x
theorem GM.iR {a:Qt}{ob:R3}(h:g a=none∨g a=some ob):∀ x y,g x=some y→GM.add g a ob x=some y:=fun x y e=>by
 unfold GM.add
 by_cases q:x=a
 ·subst q
  rcases h with h|h
  ·exact dP h e
  ·rw [h] at e;rw [if_pos rfl,e]
 ·rw [if_neg q,e]
theorem GM.b7 {a:Qt}{ob:R3}:GM.add g a ob a=some ob:=if_pos rfl
theorem eW.fresh {h':QL}{tk:Nat}{dr:S6}{a:Qt}{ob:R3}(F:FR B V A f g o ρ b s) (k:∀ a ob,s.heap.get? a=some ob→h'.get? a=some ob) (hn:s.heap.get? a=none) (ha:h'.get? a=some ob):eW V A g s (GM.add g a ob) b ⟨h',s.gens,dr,tk,s.os⟩:=by
 have hg:g a=none:=by
  cases q:g a with
  | none=>rfl
  | some x=>have:=F.bf a x q;exact dP hn this
 refine ⟨.of_keeps k,fun a ob e=>⟨ob,k a ob e⟩,F.gens,rfl,GM.iR (.inl hg),fun x e e'=>?_,fun x y e=>?_,V.fj _ _ _ F.view fun a _ o e=>k a o e⟩
 ·unfold GM.add at e'
  by_cases q:x=a
  ·subst q;exact hn
  ·rw [if_neg q] at e';exact absurd e e'
 ·unfold GM.add at e
  by_cases q:x=a
  ·subst q;cases ig (if_pos rfl) e;exact ha
  ·rw [if_neg q] at e;exact k _ _ (F.bf x y e)
end
end Mine.Internal
namespace Mine.Internal
open PySem PySem.W PySem.Calls PyProof.Rows PyProof.V PySem.Spec
noncomputable def wY (o:Qy→List Qt) (x:Qy) (os:List Qt):Qy→List Qt:=fun y=>if y=x then os else if y=bh then (o bh).filter (fun a=>!os.contains a) else o y
section
variable {M:To}{B:QL}{V:VI}{A:QE}{f:FD}{g:GM}{o:Qy→List Qt}{ρ:List (Qy×En)} {b:Array UInt8}{s:Qs}{E:Qr→Qs→Prop}
theorem kW {x y:Qy}{os:List Qt}{a:Qt}(ja:∀ a∈os,a∈o bh∨a∈o x) (h:a∈wY o x os y):∃ z,a∈o z:=by
 unfold wY at h
 split at h
 ·rcases ja a h with h|h
  ·exact ⟨_,h⟩
  ·exact ⟨_,h⟩
 ·split at h
  ·exact ⟨_,(jz h).1⟩
  ·exact ⟨_,h⟩
theorem FR.moved {x:Qy}{os:List Qt}{v:Qr}{e:En}{s':Qs}(F:FR B V A f g o ρ b s) (ja:∀ a∈os,a∈o bh∨a∈o x) (m9:x≠bh) (xh:∀ p∈f.pin,p.1≠x)
  (he:lz g V.obj s.heap os v e) (hv:cI s'.heap f.env x v)
  (bC:∀ a ob,¬ a∈f.fx→s.heap.get? a=some ob→s'.heap.get? a=some ob)
  (HB:∀ y v,y≠x→cI s.heap f.env y v→cI s'.heap f.env y v)
  (td:∀ a∈f.fx,∀ ob,s.heap.get? a=some ob→∃ b0,s'.heap.get? a=some b0∧((∃ es n,ob.data=.dict es n)→∃ es n,b0.data=.dict es n)∧((∃ v,ob.data=.cell v)→∃ v,b0.data=.cell v))
  (hL:∃ m,s'.heap.Ns f.env.locals m) (HW:s'.gens=s.gens) (KR:s'.os=s.os) :
  FR B V A f g (wY o x os) (aS ρ x e) b s'∧Step V A f g o s g (wY o x os) s':=by
 have mm:∀ a,Mod V f (wY o x os) a→Mod V f o a:=fun a h=>by
  rcases h with h|h|⟨z,h⟩
  ·exact .inl h
  ·exact .inr (.inl h)
  ·exact .inr (.inr (kW ja h))
 have Pw:∀ a,g a≠none→a∉f.fx:=fun a h q=>h (F.f9 a (.inl q))
 have alive:∀ a ob,s.heap.get? a=some ob→∃ b0,s'.heap.get? a=some b0:=fun a ob q=>by
  by_cases hf:a∈f.fx
  ·obtain ⟨b0,q',_⟩:=td a hf ob q
   exact ⟨b0,q'⟩
  ·exact ⟨ob,bC a ob hf q⟩
 have moves:∀ y u en,lk ρ y=some en→lz g V.obj s.heap (o y) u en→lz g V.obj s'.heap (o y) u en:=fun y u en _ h =>
  h.mono (fun _ _ q=>q) fun a ha ob q=>bC a ob (F.dY y a ha).1 q
 refine ⟨{ bC:=?_,gens:=HW.trans F.gens,bf:=?_,lE:=F.lE,f9:=fun a h=>F.f9 a (mm a h),mB:=fun a h=>F.mB a (mm a h),fB:=F.fB,live:=?_,dY:=?_,cX:=?_,ic:=?_,uu:=F.uu,ry:=F.ry,view:=?_,vars:=?_,kind:=F.kind,glob:=F.glob,ib:=F.ib,kE:=hL,LB:=F.LB,cells:=?_,lg:=F.lg,rb:=F.rb,da:=?_,eC:=by rw [bx,if_neg (Ne.symm m9)];exact F.eC,pin:=fun p hp=>HB _ _ (xh p hp) (F.pin p hp) },?_⟩
 ·intro a ob q
  refine bC a ob (fun h=>?_) (F.bC a ob q)
  have:=F.mB a (.inl h);rw [q] at this;cases this
 ·intro a ob q
  exact bC a ob (Pw a (by rw [q];exact fun z=>nomatch z)) (F.bf a ob q)
 ·intro a h
  obtain ⟨ob,q⟩:=F.live a (mm a h)
  exact alive a ob q
 ·intro y a h
  obtain ⟨z,h⟩:=kW ja h
  exact F.dY z a h
 ·intro y z MG a h k
  unfold wY at h k
  by_cases hy:y=x
  ·rw [if_pos hy] at h
   have hz:¬ z=x:=fun q=>MG (hy.trans q.symm)
   rw [if_neg hz] at k
   split at k
   ·have:=(jz k).2
    simp at this
    exact this h
   ·rename_i N8
    rcases ja a h with h|h
    ·exact F.cX _ _ (Ne.symm N8) a h k
    ·exact F.cX _ _ (Ne.symm hz) a h k
  ·rw [if_neg hy] at h
   by_cases hz:z=x
   ·rw [if_pos hz] at k
    split at h
    ·have:=(jz h).2
     simp at this
     exact this k
    ·rename_i xd
     rcases ja a k with k|k
     ·exact F.cX _ _ xd a h k
     ·exact F.cX _ _ hy a h k
   ·rw [if_neg hz] at k
    have h':a∈o y:=by
     split at h
     ·rename_i q;rw [q];exact (jz h).1
     ·exact h
    have k':a∈o z:=by
     split at k
     ·rename_i q;rw [q];exact (jz k).1
     ·exact k
    exact F.cX y z MG a h' k'
 ·intro y a h
  obtain ⟨z,h⟩:=kW ja h
  exact F.ic z a h
 ·exact V.fj _ _ _ F.view fun a ha ob q=>bC a ob (fun h=>F.uu a h ha) q
 ·intro y en hy
  rw [bx] at hy
  by_cases q:y=x
  ·subst q
   cases ig (if_pos rfl) hy
   refine ⟨v,hv,?_⟩
   rw [show wY o y os y=os from if_pos rfl]
   exact he.mono (fun _ _ q=>q) fun a ha ob q=>bC a ob (by rcases ja a ha with h|h<;>exact (F.dY _ a h).1) q
  ·rw [if_neg q] at hy
   obtain ⟨u,h1,h2⟩:=F.vars y en hy
   refine ⟨u,HB y u q h1,?_⟩
   have xd:y≠bh:=fQ F.eC hy
   rw [show wY o x os y=o y by unfold wY;rw [if_neg q,if_neg xd]]
   exact moves y u en hy h2
 ·intro y c hc
  obtain ⟨h1,⟨u,ob,h2,h3⟩,h4,h5,h6,h7⟩:=F.cells y c hc
  refine ⟨h1,?_,h4,h5,fun z hz=>?_,h7⟩
  ·by_cases hf:c∈f.fx
   ·obtain ⟨b0,q',_,hk⟩:=td c hf ob h2
    obtain ⟨u',hu⟩:=hk ⟨u,h3⟩
    exact ⟨u',b0,q',hu⟩
   ·exact ⟨u,ob,bC c ob hf h2,h3⟩
  ·obtain ⟨z',hz⟩:=kW ja hz
   exact h6 z' hz
 ·refine F.da.slot fun a ha ob q=>?_
  by_cases hf:a∈f.fx
  ·obtain ⟨b0,q',hk,_⟩:=td a hf ob q
   exact ⟨b0,q',hk⟩
  ·exact ⟨ob,bC a ob hf q,fun h=>h⟩
 ·refine ⟨⟨fun a ob q p _=>bC a ob (fun h=>p (.inl h)) q,fun a ob q p=>⟨ob.slots,bC a ob (fun h=>p (.inl h)) q⟩⟩,alive,fun _ _ q=>q,fun a q q'=>absurd q q',fun y a h=>.inl (kW ja h),KR⟩
theorem FR.store {x:Qy}{os:List Qt}{v:Qr}{e:En}{Q:Unit→Qs→Prop}(F:FR B V A f g o ρ b s) (hx:f.env.kindOf x=some .local∨(f.comp=false∧f.env.kindOf x=some .cell)) (m9:x≠bh) (xh:∀ p∈f.pin,p.1≠x)
  (ja:∀ a∈os,a∈o bh∨a∈o x) (he:lz g V.obj s.heap os v e)
  (hQ:∀ s',FR B V A f g (wY o x os) (aS ρ x e) b s'→Step V A f g o s g (wY o x os) s'→(∀ a ob,a∉f.fx→s.heap.get? a=some ob→s'.heap.get? a=some ob)→Q () s'):QF M A (storeName f.env x v) Q E s:=by
 rcases hx with hx|⟨Fz,hx⟩
 ·obtain ⟨m,hn⟩:=F.kE
  refine wpAny_storeName_local hx hn (fun h' si hs=>?_) (by rw [F.kind];rfl)
  have st:∀ a ob,¬ a∈f.fx→s.heap.get? a=some ob→h'.get? a=some ob:=fun a ob hf q=>hs.extBut a ob (fun z=>hf (z▸F.ib)) q
  have cl:∀ y c,f.env.cells.lookup y=some c→∀ ov,s.heap.IsCell c ov→h'.IsCell c ov:=fun y c hc ov h=>h.sameBut hs (F.cells y c hc).c1
  refine And.elim (fun a1 a2=>hQ _ a1 a2 st) (F.moved (s':={ s with heap:=h',toks:=s.toks+1 }) ja m9 xh he (.inl ⟨hx,_,si,if_pos rfl⟩) st (fun y u hy hv=>?_) (fun a ha ob q=>?_) ⟨_,si⟩ rfl rfl)
  ·rcases hv with ⟨k,m',HN,hv⟩|⟨k,c,hc,hv⟩
   ·refine .inl ⟨k,_,si,?_⟩
    have:m y=m' y:=by
     obtain ⟨o1,e1,p1,g1,d1,_,f1⟩:=hn
     obtain ⟨o2,e2,p2,g2,d2,_,f2⟩:=HN
     cases ig g1 g2
     rw [d1] at d2;cases d2
     rw [← f1,← f2]
    show (if y=x then some v else m y)=some u
    rw [if_neg hy,this];exact hv
   ·exact .inr ⟨k,c,hc,cl y c hc _ hv⟩
  ·by_cases hL:a=f.env.locals
   ·subst hL
    obtain ⟨b0,es,ep,e1,d1,_⟩:=si
    refine ⟨b0,e1,fun _=>⟨es,ep,d1⟩,fun ⟨u,hu⟩=>?_⟩
    obtain ⟨o1,e2,p1,g1,dd,_⟩:=hn
    cases ig g1 q
    rw [dd] at hu;cases hu
   ·exact ⟨ob,hs.extBut a ob hL q,fun h=>h,fun h=>h⟩
 ·obtain ⟨c,hc⟩:=RU.mp (F.lg x hx)
  obtain ⟨c1,⟨NN,c2⟩,c3,c4,c5,c6⟩:=F.cells x c hc
  have cf:=c6 Fz hx
  refine wpAny_storeName_cell F.kind hx hc c2 fun h' Ax hs=>?_
  have st:∀ a ob,¬ a∈f.fx→s.heap.get? a=some ob→h'.get? a=some ob:=fun a ob hf q=>hs.extBut a ob (fun z=>hf (z▸cf)) q
  refine And.elim (fun a1 a2=>hQ _ a1 a2 st) (F.moved (s':={ s with heap:=h' }) ja m9 xh he (.inr ⟨.inl hx,c,hc,Ax⟩) st (fun y u hy hv=>?_) (fun a ha ob q=>?_) ?_ rfl rfl)
  ·rcases hv with ⟨k,m',HN,hv⟩|⟨k,c',M9,hv⟩
   ·exact .inl ⟨k,m',HN.sameBut hs (Ne.symm c1),hv⟩
   ·exact .inr ⟨k,c',M9,hv.sameBut hs fun z=>hy (F.rb y x c (z▸M9) hc)⟩
  ·by_cases hL:a=c
   ·subst hL
    obtain ⟨b0,e1,d1⟩:=Ax
    refine ⟨b0,e1,fun ⟨es,n,hd⟩=>?_,fun _=>⟨_,d1⟩⟩
    obtain ⟨mv,e2,d2⟩:=c2
    cases ig e2 q
    rw [d2] at hd;cases hd
   ·exact ⟨ob,hs.extBut a ob hL q,fun h=>h,fun h=>h⟩
  ·obtain ⟨m,hn⟩:=F.kE
   exact ⟨m,hn.sameBut hs (Ne.symm c1)⟩
end
end Mine.Internal
namespace Mine.Internal
open PySem PySem.W PySem.Calls PyProof.Rows PyProof.V PySem.Spec PySem.SeqAt
open L.N renaming k → ae, a → ak, l → dO, h → cD
open L.Z renaming k → aJ, a → cn, s → fy, g → xN, l → BL, h → E7, u → aL
open L.F renaming le → aq, lt → aD, eq → aH, Dy → bM, Dx → cU, Dz → cu, no → bI, an → dB, or → j6, im → ag
open L.P renaming s → b9, r → fO, t → gk, mn → AF, mx → oQ
structure kG (K:U3) (C:Qt) (fields:List Qy) (init:Qt):Prop where
 get:∀ nm∈fields,plainGet K C nm=true∧∃ attr,findIn K (.ref C) nm=some attr∧noGet K attr=true
 dict:hasDictIn K C=true
 sa:findIn K (.ref C) "__setattr__"=some (some (.builtin "object.__setattr__"))
 over:plainOver K C=true
 tk:∀ nm∈fields,takerIn K C nm=some none
 keep:keepIn K (.ref C)=true
 Je:makesIn K C=true
 mA:findIn K (.ref C) "__init__"=some (some (.ref init))
 fn:typeIn K (.ref init)=some (.type "function")
structure mE (K:U3) (C:Qt) (name:Qy) (a:Qt):Prop where
 get:plainGet K C name=true
 find:findIn K (.ref C) name=some (some (.ref a))
 fn:isFn K (.ref a)=true
 keep:keepIn K (.ref a)=true
structure Cx where
 prog:Rn
 w:RE
 B:QL
 V:VI
 mg:Qy→Option Qr
 mb:Qy→Option Qr
 hg:B.Ns QY mg
 hb:B.Ns Ra mb
 lim:B.NoLimit
 blt:∀ p∈sT,mg p.1=none∧mb p.1=some p.2
 K:U3
 hK:K.In B
 cls:∀ c,kG K (ra c) (eE c) (Ed c)
 qB:∀ p∈pR,mE K 138 p.1 p.2
noncomputable def cG (A:QE) (n:Nat):Prop:=A.handled=none∧A.depth+4*n≤700∧A.units+12*n≤6000
theorem cG.deeper {A:QE}{n:Nat}{env:TU}(h:cG A (n+1)):cG (A.deeper env) n:=⟨h.1,by have:=h.2.1;show A.depth+1+_≤_;exact (cS (ag (aq (ak aa (dO 4 (ak aj (ae 1)))) (ae 700)) (aq (ak (ak aa (ae 1)) (dO 4 aj)) (ae 700)))) this,by have:=h.2.2;show A.units+3+_≤_;exact (cS (ag (aq (ak aa (dO 12 (ak aj (ae 1)))) (ae 6000)) (aq (ak (ak aa (ae 3)) (dO 12 aj)) (ae 6000)))) this⟩
theorem cG.d {A:QE}{n:Nat}(h:cG A n):A.depth<recursionLimit:=by have:=h.2.1;show A.depth<1000;exact (cS (ag (aq (ak aa (dO 4 aj)) (ae 700)) (aD aa (ae 1000)))) this
theorem cG.u {A:QE}{n:Nat}(h:cG A n):A.units+64<cLine:=by have:=h.2.2;show A.units+64<9900;exact (cS (ag (aq (ak aa (dO 12 aj)) (ae 6000)) (aD (ak aa (ae 64)) (ae 9900)))) this
structure bK (V:VI) (A:QE) (f:FD) (g:GM) (o:Qy→List Qt) (s:Qs) (g':GM) (o':Qy→List Qt) (s':Qs):Prop extends Step V A f g o s g' o' s' where
 tk:∀ a∈o bh,a∈o' bh∧∀ ob,s.heap.get? a=some ob→s'.heap.get? a=some ob
 vk:∀ x v,cI s.heap f.env x v→cI s'.heap f.env x v
section
variable {B:QL}{V:VI}{A:QE}{f:FD}{g g' gF:GM}{o o' rl:Qy→List Qt}{ρ:List (Qy×En)} {b b':Array UInt8}{s s' dG:Qs}
theorem bK.refl:bK V A f g o s g o s:=⟨.refl,fun a h=>⟨h,fun _ e=>e⟩,fun _ _ h=>h⟩
theorem bK.trans (x:bK V A f g o s g' o' s') (y:bK V A f g' o' s' gF rl dG):bK V A f g o s gF rl dG :=
 ⟨x.toStep.trans y.toStep,fun a h=>⟨(y.tk a (x.tk a h).1).1,fun ob e=>(y.tk a (x.tk a h).1).2 ob ((x.tk a h).2 ob e)⟩,fun z v h=>y.vk z v (x.vk z v h)⟩
theorem eW.mq (P:eW V A g s g' b' s') (F:FR B V A f g o ρ b s):bK V A f g o s g' o s' :=
 ⟨P.step,fun a h=>⟨h,fun ob e=>P.kept.keep a ob e (fun q=>(F.dY _ a h).2 (V.sub _ q)) (F.ic _ a h)⟩,
  fun x v h=>h.move (fun m hn=>kQ hn fun ob e=>P.kept.slot _ ob e F.jM) fun c hc ov ⟨ob,e,hd⟩=>⟨ob,P.kept.keep c ob e (fun h=>(F.cells x c hc).c4 (V.sub _ h)) (F.cells x c hc).c3,hd⟩⟩
theorem FR.tok (F:FR B V A f g o ρ b s) (t:Nat):FR B V A f g o ρ b { s with toks:=t }∧bK V A f g o s g o { s with toks:=t }:=by
 have P:=eW.of_keeps (h':=s.heap) (tk:=t) (dr:=s.drawn) F (fun _ _ e=>e)
 exact ⟨F.after P,P.mq F⟩
theorem FR.keeps {h':QL}{tk:Nat}{dr:S6}(F:FR B V A f g o ρ b s) (k:∀ a ob,s.heap.get? a=some ob→h'.get? a=some ob) :
  FR B V A f g o ρ b ⟨h',s.gens,dr,tk,s.os⟩∧bK V A f g o s g o ⟨h',s.gens,dr,tk,s.os⟩:=by
 have P:=eW.of_keeps (tk:=tk) (dr:=dr) F k
 exact ⟨F.after P,P.mq F⟩
theorem FR.fresh {h':QL}{tk:Nat}{dr:S6}{a:Qt}{ob:R3}(F:FR B V A f g o ρ b s) (k:∀ a ob,s.heap.get? a=some ob→h'.get? a=some ob) (hn:s.heap.get? a=none) (ha:h'.get? a=some ob) :
  FR B V A f (GM.add g a ob) o ρ b ⟨h',s.gens,dr,tk,s.os⟩∧bK V A f g o s (GM.add g a ob) o ⟨h',s.gens,dr,tk,s.os⟩:=by
 have P:=eW.fresh (tk:=tk) (dr:=dr) F k hn ha
 exact ⟨F.after P,P.mq F⟩
theorem FR.qR (F:FR B V A f g o ρ b s) {a:Qt}(h:s.heap.get? a=none):g a=none:=by
 cases q:g a with
 | none=>rfl
 | some x=>have:=F.bf a x q;exact dP h this
end
abbrev Rw:=List (Qy×En)
noncomputable def SE (X:Cx) (n:Nat) (sc:QM) (e:QR) (ρ:Rw) (b:Array UInt8) (d:D) (ρ':Rw) (b':Array UInt8):Prop :=
 ∀ (A:QE) (f:FD) (g:GM) (o:Qy→List Qt) (s:Qs) (Q:Qr→Qs→Prop) (E:Qr→Qs→Prop),cG A n→f.env.scope=sc→FR X.B X.V A f g o ρ b s →
  (∀ v g' o' s',FR X.B X.V A f g' o' ρ' b' s'→bK X.V A f g o s g' o' s'→Rep g' X.V.obj v d→Q v s')→QF (QJ X.prog X.w) A (eval e f.env) Q E s
noncomputable def ST (X:Cx) (n:Nat) (sc:QM) (e:QR) (ρ:Rw) (b:Array UInt8) (t:Bool) (ρ':Rw) (b':Array UInt8):Prop :=
 ∀ (A:QE) (f:FD) (g:GM) (o:Qy→List Qt) (s:Qs) (Q:Bool→Qs→Prop) (E:Qr→Qs→Prop),cG A n→f.env.scope=sc→FR X.B X.V A f g o ρ b s →
  (∀ g' o' s',FR X.B X.V A f g' o' ρ' b' s'→bK X.V A f g o s g' o' s'→Q t s')→QF (QJ X.prog X.w) A (isTrue e f.env (eval e f.env)) Q E s
noncomputable def rh (X:Cx) (n:Nat) (sc:QM) (es:List QR) (ρ:Rw) (b:Array UInt8) (ds:List D) (ρ':Rw) (b':Array UInt8):Prop :=
 ∀ (pos:Rd) (A:QE) (f:FD) (g:GM) (o:Qy→List Qt) (s:Qs) (Q:List Qr→Qs→Prop) (E:Qr→Qs→Prop),cG A n→f.env.scope=sc→FR X.B X.V A f g o ρ b s →
  (∀ vs g' o' s',FR X.B X.V A f g' o' ρ' b' s'→bK X.V A f g o s g' o' s'→aB g' X.V.obj vs ds→Q vs s')→QF (QJ X.prog X.w) A (spliced (backTo pos (QS es f.env))) Q E s
section
variable {X:Cx}{n:Nat}{sc:QM}{ρ af ay cN:Rw}{b ao b₂ eb:Array UInt8}
theorem SE.none {k:Nat}{pos:Rd}:SE X n sc (.Constant .none k pos) ρ b .none ρ b:=fun A f g o s Q E R hs F h=>Qv (h _ g o s F .refl .none)
theorem aC {k:Nat}{pos:Rd}{i:Int}:SE X n sc (.Constant (.int i) k pos) ρ b (.int i) ρ b:=fun A f g o s Q E R hs F h =>
 wpAny_Constant_int (h _ g o _ (F.tok _).1 (F.tok _).2 (.int i _))
theorem SE.str {k:Nat}{pos:Rd}{x:Qy}:SE X n sc (.Constant (.str x) k pos) ρ b (.str x) ρ b:=fun A f g o s Q E R hs F h =>
 Um (h _ g o _ (F.tok _).1 (F.tok _).2 (.str x _))
theorem aV {M:To}{A:QE}{s:Qs}{env:TU}{x:Qy}{v:Qr}{Q:Qr→Qs→Prop}{E:Qr→Qs→Prop}(hk:env.scope.kind=.function) (hx:cI s.heap env x v) (hn:(x==("__classdict__":Qy))=false) (h:Q v s):QF M A (loadName env x) Q E s:=by
 rcases hx with ⟨k,m,hm,hv⟩|⟨k|k,c,hc,hv⟩
 ·exact wpAny_loadName_local hk k hm hv h
 ·exact wpAny_loadName_cell hk k hc hv h
 ·exact wpAny_loadName_free hk k hc hv h hn
noncomputable def okN (x:Qy):Bool:=!(x==("__debug__":Qy))&&!(x==("__classdict__":Qy))
theorem okN.d {x:Qy}(h:okN x=true):(x==("__debug__":Qy))=false∧(x==("__classdict__":Qy))=false:=by
 unfold okN at h;simp only [R5,S0] at h;exact h
theorem ai {x:Qy}{pos:Rd}{d:D}(hx:lk ρ x=some (.val d)) (hn:autoParam (okN x=true) bG):SE X n sc (.Name x pos) ρ b d ρ b:=fun A f g o s Q E R hs F h=>by
 obtain ⟨v,h1,h2⟩:=F.vars x _ hx
 exact Rb (aV F.kind h1 (okN.d hn).2 (h v g o s F .refl h2)) (okN.d hn).1
theorem Gl {x:Qy}{s:Qs}{A:QE}{f:FD}{g:GM}{o:Qy→List Qt}{E:Qr→Qs→Prop}{v:Qr}{Q:Qr→Qs→Prop}{pos:Rd}(F:FR X.B X.V A f g o ρ b s) (hk:f.env.scope.names.lookup x=some .globalImplicit)
  (hx:X.mg x=some v) (hn:okN x=true) (h:Q v s):QF (QJ X.prog X.w) A (eval (.Name x pos) f.env) Q E s :=
 TX F.kind hk (loadGlobal_global (F.glob.1▸X.hg.keeps F.bC) hx h) (okN.d hn).1
theorem Bl {x:Qy}{s:Qs}{A:QE}{f:FD}{g:GM}{o:Qy→List Qt}{E:Qr→Qs→Prop}{v:Qr}{Q:Qr→Qs→Prop}{pos:Rd}(F:FR X.B X.V A f g o ρ b s) (hk:f.env.scope.names.lookup x=some .globalImplicit)
  (hm:X.mg x=Option.none) (hx:X.mb x=some v) (hn:okN x=true) (h:Q v s):QF (QJ X.prog X.w) A (eval (.Name x pos) f.env) Q E s :=
 TX F.kind hk (loadGlobal_builtin (F.glob.1▸X.hg.keeps F.bC) hm (F.glob.2▸X.hb.keeps F.bC) hx h) (okN.d hn).1
theorem SE.Iw {x:Qy}{pos:Rd}{i:Int}{t:UN}(hx:X.mg x=some (.int i t)) (hk:autoParam (sc.names.lookup x=some .globalImplicit) bG) (hn:autoParam (okN x=true) bG):SE X n sc (.Name x pos) ρ b (.int i) ρ b:=fun A f g o s Q E R hs F h =>
 Gl F (by rw [hs];exact hk) hx hn (h _ g o s F .refl (.int i t))
theorem SE.bin {l r:QR}{op:Operator}{pos:Rd}{d e x:D}(hl:SE X n sc l ρ b d af ao) (hr:SE X n sc r af ao e ay b₂)
  (Bf:∀ (A:QE) (f:FD) (g:GM) (o:Qy→List Qt) (s:Qs) (Q:Qr→Qs→Prop) (E:Qr→Qs→Prop) (v u:Qr),cG A n→FR X.B X.V A f g o ay b₂ s→Rep g X.V.obj v d→Rep g X.V.obj u e →
   (∀ v g' o' s',FR X.B X.V A f g' o' ay b₂ s'→bK X.V A f g o s g' o' s'→Rep g' X.V.obj v x→Q v s')→QF (QJ X.prog X.w) A (binaryOp op v u) Q E s):SE X n sc (.BinOp l op r pos) ρ b x ay b₂:=fun A f g o s Q E R hs F h =>
 wpAny_BinOp (hl A f g o s _ E R hs F fun v aE aN ah aA aP aW=>hr A f aE aN ah _ E R hs aA fun u bl cx bk aM aO bt =>
  Bf A f bl cx bk _ E v u R aM (aW.mono aO.gm) bt fun w gO kn b4 cA cO qu=>h w gO kn b4 cA (aP.trans (aO.trans cO)) qu)
theorem SE.qL {l r:QR}{op:Operator}{pos:Rd}{i j k:Int}(hl:SE X n sc l ρ b (.int i) af ao) (hr:SE X n sc r af ao (.int j) ay b₂)
  (Bf:∀ (A:QE) (s:Qs) (Q:Qr→Qs→Prop) (E:Qr→Qs→Prop) (t u:UN),cG A n→s.heap.NoLimit→Q (.int k s.toks) { s with toks:=s.toks+1 }→QF (QJ X.prog X.w) A (binaryOp op (.int i t) (.int j u)) Q E s) :
  SE X n sc (.BinOp l op r pos) ρ b (.int k) ay b₂ :=
 SE.bin hl hr fun A f g o s Q E v u R F aW bt h=>by
  obtain ⟨_,rfl⟩:=aW.bZ
  obtain ⟨_,rfl⟩:=bt.bZ
  exact Bf A s Q E _ _ R (X.lim.keeps F.bC) (h _ g o _ (F.tok _).1 (F.tok _).2 (.int k _))
theorem cZ {l r:QR}{pos:Rd}{i j:Int}(hl:SE X n sc l ρ b (.int i) af ao) (hr:SE X n sc r af ao (.int j) ay b₂):SE X n sc (.BinOp l .Add r pos) ρ b (.int (i+j)) ay b₂ :=
 SE.qL hl hr fun A s Q E t u R L h=>wpAny_add_int h
theorem SE.sub {l r:QR}{pos:Rd}{i j:Int}(hl:SE X n sc l ρ b (.int i) af ao) (hr:SE X n sc r af ao (.int j) ay b₂):SE X n sc (.BinOp l .Sub r pos) ρ b (.int (i-j)) ay b₂ :=
 SE.qL hl hr fun A s Q E t u R L h=>sub_int' h
theorem dH {l r:QR}{pos:Rd}{i j:Int}(hl:SE X n sc l ρ b (.int i) af ao) (hr:SE X n sc r af ao (.int j) ay b₂) (hm:IntMulOk i j):SE X n sc (.BinOp l .Mult r pos) ρ b (.int (i*j)) ay b₂ :=
 SE.qL hl hr fun A s Q E t u R L h=>PyProof.Rows.mul_int h hm
theorem cK {l r:QR}{pos:Rd}{i j:Int}(hl:SE X n sc l ρ b (.int i) af ao) (hr:SE X n sc r af ao (.int j) ay b₂) (hj:j≠0):SE X n sc (.BinOp l .Mod r pos) ρ b (.int (i.fmod j)) ay b₂ :=
 SE.qL hl hr fun A s Q E t u R L h=>mod_int' hj h
theorem SE.shr {l r:QR}{pos:Rd}{i j:Int}(hl:SE X n sc l ρ b (.int i) af ao) (hr:SE X n sc r af ao (.int j) ay b₂) (hj:0≤j):SE X n sc (.BinOp l .RShift r pos) ρ b (.int (i.fdiv (2 ^ j.toNat))) ay b₂ :=
 SE.qL hl hr fun A s Q E t u R L h=>rshift_int hj h
theorem SE.shl {l r:QR}{pos:Rd}{i j:Int}(hl:SE X n sc l ρ b (.int i) af ao) (hr:SE X n sc r af ao (.int j) ay b₂) (hj:0≤j) (Fw:j≤1000000) (hi:i.natAbs<2 ^ 64):SE X n sc (.BinOp l .LShift r pos) ρ b (.int (i*2 ^ j.toNat)) ay b₂ :=
 SE.qL hl hr fun A s Q E t u R L h=>lshift_int_small hj Fw hi h
theorem SE.pow {l r:QR}{pos:Rd}{i j:Int}(hl:SE X n sc l ρ b (.int i) af ao) (hr:SE X n sc r af ao (.int j) ay b₂) (hj:0≤j) (Fw:j≤1000000) (hi:i.natAbs<2 ^ 64):SE X n sc (.BinOp l .Pow r pos) ρ b (.int (i ^ j.toNat)) ay b₂ :=
 SE.qL hl hr fun A s Q E t u R L h=>pow_int_small hj Fw hi h
theorem SE.xor {l r:QR}{pos:Rd}{i j:Int}(hl:SE X n sc l ρ b (.int i) af ao) (hr:SE X n sc r af ao (.int j) ay b₂):SE X n sc (.BinOp l .BitXor r pos) ρ b (.int (Builtin.bitXor i j)) ay b₂ :=
 SE.qL hl hr fun A s Q E t u R L h=>xor_int h
theorem gK {l r:QR}{pos:Rd}{i j:Int}(hl:SE X n sc l ρ b (.int i) af ao) (hr:SE X n sc r af ao (.int j) ay b₂) (hj:j≠0) (Fw:j.natAbs.log2<9000):SE X n sc (.BinOp l .FloorDiv r pos) ρ b (.int (i.fdiv j)) ay b₂ :=
 SE.qL hl hr fun A s Q E t u R L h=>floordiv_int hj h (.inl (PyProof.noPylong_of_log2 Fw))
noncomputable def aQ (X:Cx) (n:Nat) (op:Vs) (d e:D) (t:Bool):Prop :=
 ∀ (A:QE) (g:GM) (s:Qs) (Q:Qr→Qs→Prop) (E:Qr→Qs→Prop) (v u:Qr),cG A n→(∀ a ob,g a=some ob→s.heap.get? a=some ob)→Rep g X.V.obj v d→Rep g X.V.obj u e→Q (.bool t) s →
  QF (QJ X.prog X.w) A (compareOp op v u) Q E s
theorem SE.cmp {l r:QR}{op:Vs}{pos:Rd}{d e:D}{t:Bool}(hl:SE X n sc l ρ b d af ao) (hr:SE X n sc r af ao e ay b₂) (hc:aQ X n op d e t) (hm:autoParam (behindInMarks op r=false) wy) :
  SE X n sc (.Compare l [op] [r] pos) ρ b (.bool t) ay b₂:=fun A f g o s Q E R hs F h =>
 wpAny_Compare1 (hl A f g o s _ E R hs F fun v aE aN ah aA aP aW=>hr A f aE aN ah _ E R hs aA fun u bl cx bk aM aO bt =>
  hc A bl bk _ E v u R aM.bf (aW.mono aO.gm) bt (h _ bl cx bk aM (aP.trans aO) (.bool t))) hm
theorem cg {l r:QR}{op:Vs}{pos:Rd}{d e:D}{t:Bool}(hl:SE X n sc l ρ b d af ao) (hr:SE X n sc r af ao e ay b₂) (hc:aQ X n op d e t) (hm:autoParam (behindInMarks op r=false) wy) :
  ST X n sc (.Compare l [op] [r] pos) ρ b t ay b₂:=fun A f g o s Q E R hs F h =>
 Sw (hl A f g o s _ E R hs F fun v aE aN ah aA aP aW=>hr A f aE aN ah _ E R hs aA fun u bl cx bk aM aO bt =>
  hc A bl bk _ E v u R aM.bf (aW.mono aO.gm) bt (Se (h bl cx bk aM (aP.trans aO)))) hm
theorem ST.not {x:QR}{pos:Rd}{t:Bool}(hx:ST X n sc x ρ b t af ao):ST X n sc (.UnaryOp .Not x pos) ρ b (!t) af ao:=fun A f g o s Q E R hs F h =>
 wpAny_isTrue_Not (hx A f g o s _ E R hs F h)
theorem ST.val {e:QR}{t:Bool}(hx:SE X n sc e ρ b (.bool t) af ao) (he:autoParam (∀ env whole,isTrue e env whole=(do let v ← whole;standAt e.pos;holding [v] (truthy v))) qq):ST X n sc e ρ b t af ao:=fun A f g o s Q E R hs F h =>
 wpAny_isTrue_value (hx A f g o s _ E R hs F fun v aE aN ah aA aP aW=>by obtain rfl:=aW.xX;exact Se (h aE aN ah aA aP)) (he _ _)
theorem ST.Ae {x y:QR}{pos:Rd}{t u:Bool}(hx:ST X n sc x ρ b t af ao) (hy:t=true→ST X n sc y af ao u af ao):ST X n sc (.BoolOp .And [x,y] pos) ρ b (t&&u) af ao:=fun A f g o s Q E R hs F h=>by
 refine T7 (TK (hx A f g o s _ E R hs F fun aE aN ah aA aP=>?_))
 cases t with
 | false=>exact h aE aN ah aA aP
 | true =>
  refine TK (hy rfl A f aE aN ah _ E R hs aA fun bl cx bk aM aO=>?_)
  cases u with
  | false=>exact h bl cx bk aM (aP.trans aO)
  | true=>exact wpAny_allTrue_And_nil (h bl cx bk aM (aP.trans aO))
theorem ST.J4 {x y:QR}{pos:Rd}{t u:Bool}(hx:ST X n sc x ρ b t af ao) (hy:t=false→ST X n sc y af ao u af ao):ST X n sc (.BoolOp .Or [x,y] pos) ρ b (t||u) af ao:=fun A f g o s Q E R hs F h=>by
 refine T7 (TR (hx A f g o s _ E R hs F fun aE aN ah aA aP=>?_))
 cases t with
 | true=>exact h aE aN ah aA aP
 | false =>
  refine TR (hy rfl A f aE aN ah _ E R hs aA fun bl cx bk aM aO=>?_)
  cases u with
  | true=>exact h bl cx bk aM (aP.trans aO)
  | false=>exact wpAny_allTrue_Or_nil (h bl cx bk aM (aP.trans aO))
theorem SE.ite {test x y:QR}{pos:Rd}{t:Bool}{d:D}(ht:ST X n sc test ρ b t af ao) (hx:t=true→SE X n sc x af ao d ay b₂) (hy:t=false→SE X n sc y af ao d ay b₂):SE X n sc (.IfExp test x y pos) ρ b d ay b₂:=fun A f g o s Q E R hs F h=>by
 refine wpAny_IfExp (ht A f g o s _ E R hs F fun aE aN ah aA aP=>?_)
 cases t with
 | true=>exact hx rfl A f aE aN ah Q E R hs aA fun v bl cx bk aM aO bt=>h v bl cx bk aM (aP.trans aO) bt
 | false=>exact hy rfl A f aE aN ah Q E R hs aA fun v bl cx bk aM aO bt=>h v bl cx bk aM (aP.trans aO) bt
theorem SE.qK {test x y:QR}{pos:Rd}{d:D}(ht:ST X n sc test ρ b true af ao) (hx:SE X n sc x af ao d ay b₂):SE X n sc (.IfExp test x y pos) ρ b d ay b₂:=SE.ite ht (fun _=>hx) fun h=>nomatch h
theorem SE.kI {test x y:QR}{pos:Rd}{d:D}(ht:ST X n sc test ρ b false af ao) (hy:SE X n sc y af ao d ay b₂):SE X n sc (.IfExp test x y pos) ρ b d ay b₂:=SE.ite ht (fun h=>nomatch h) fun _=>hy
theorem aQ.ltI {i j:Int}:aQ X n .Lt (.int i) (.int j) (decide (i<j)):=fun A g s Q E v u R hg aW bt h=>by obtain ⟨_,rfl⟩:=aW.bZ;obtain ⟨_,rfl⟩:=bt.bZ;exact P.lt_int h
theorem aQ.N3 {i j:Int}:aQ X n .LtE (.int i) (.int j) (decide (i≤j)):=fun A g s Q E v u R hg aW bt h=>by obtain ⟨_,rfl⟩:=aW.bZ;obtain ⟨_,rfl⟩:=bt.bZ;exact P.le_int h
theorem aQ.Iv {i j:Int}:aQ X n .Gt (.int i) (.int j) (decide (i > j)):=fun A g s Q E v u R hg aW bt h=>by obtain ⟨_,rfl⟩:=aW.bZ;obtain ⟨_,rfl⟩:=bt.bZ;exact P.gt_int h
theorem aQ.Nv {i j:Int}:aQ X n .GtE (.int i) (.int j) (decide (i ≥ j)):=fun A g s Q E v u R hg aW bt h=>by obtain ⟨_,rfl⟩:=aW.bZ;obtain ⟨_,rfl⟩:=bt.bZ;exact P.ge_int h
theorem aQ.vU {i j:Int}:aQ X n .Eq (.int i) (.int j) (i==j):=fun A g s Q E v u R hg aW bt h=>by obtain ⟨_,rfl⟩:=aW.bZ;obtain ⟨_,rfl⟩:=bt.bZ;exact P.eq_int h
theorem aQ.Fn {i j:Int}:aQ X n .NotEq (.int i) (.int j) (i != j):=fun A g s Q E v u R hg aW bt h=>by obtain ⟨_,rfl⟩:=aW.bZ;obtain ⟨_,rfl⟩:=bt.bZ;exact P.ne_int h
mutual
noncomputable def ofPy:QG→D
 | .none=>.none
 | .bool b=>.bool b
 | .int i=>.int i
 | .str x=>.str x
 | .tuple xs=>.tup (ofPys xs)
 | .list xs=>.list (ofPys xs)
 | .dict _=>.none
noncomputable def ofPys:List QG→List D
 | []=>[]
 | x::xs=>ofPy x::ofPys xs
end
section
variable {g:GM}{vw:Nat→Option Qt}{h:QL}(hg:∀ a ob,g a=some ob→h.get? a=some ob)
include hg
theorem Rep.reads (p:QG):∀ v:Qr,p.canLay0=true→Rep g vw v (ofPy p)→∃ as,Reads h v p as :=
 QG.rec (motive_1:=fun p=>∀ v:Qr,p.canLay0=true→Rep g vw v (ofPy p)→∃ as,Reads h v p as) (motive_2:=fun ps=>∀ vs:List Qr,QG.canLayAll0 ps=true→aB g vw vs (ofPys ps)→∃ as,ReadsAll h vs ps as) (motive_3:=fun _=>True) (motive_4:=fun _=>True)
  (fun v _ r=>by obtain rfl:=Rep.tu r;exact ⟨_,.none⟩) (fun b v _ r=>by obtain rfl:=Rep.xX r;exact ⟨_,.bool b⟩) (fun i v _ r=>by obtain ⟨t,rfl⟩:=Rep.bZ r;exact ⟨_,.int i t⟩) (fun x v _ r=>by obtain ⟨t,rfl⟩:=Rep.j9 r;exact ⟨_,.str x t⟩)
  (fun xs ih v hl r=>by
   obtain ⟨_,_,_,_,rfl,h1,h2,h3,k⟩:=Rep.dp r
   obtain ⟨as,r'⟩:=ih _ hl k
   exact ⟨_,.list (hg _ _ h1) h2 h3 r'⟩)
  (fun xs ih v hl r=>by
   obtain ⟨_,_,_,_,rfl,h1,h2,h3,k⟩:=Rep.uZ r
   obtain ⟨as,r'⟩:=ih _ hl k
   exact ⟨_,.tuple (hg _ _ h1) h2 h3 r'⟩)
  (fun _ _ _ hl _=>nomatch hl) (fun vs _ r=>by obtain rfl:=aB.u0 r;exact ⟨_,.nil⟩)
  (fun p ps oU oS vs hl r=>by
   obtain ⟨_,_,rfl,r1,r2⟩:=aB.jl r
   obtain ⟨as,k1⟩:=oU _ (QX.mp hl).1 r1
   obtain ⟨bs,k2⟩:=oS _ (QX.mp hl).2 r2
   exact ⟨_,.cons k1 k2⟩) trivial (fun _ _ _ _=>trivial) (fun _ _ _ _=>trivial) p
theorem aB.reads:∀ (ps:List QG) (vs:List Qr),QG.canLayAll0 ps=true→aB g vw vs (ofPys ps)→∃ as,ReadsAll h vs ps as:=by
 intro ps
 induction ps with
 | nil=>intro vs _ r;obtain rfl:=aB.u0 r;exact ⟨_,.nil⟩
 | cons p ps ih =>
  intro vs hl r
  obtain ⟨_,_,rfl,r1,r2⟩:=aB.jl r
  obtain ⟨as,k1⟩:=Rep.reads hg p _ (QX.mp hl).1 r1
  obtain ⟨bs,k2⟩:=ih _ (QX.mp hl).2 r2
  exact ⟨_,.cons k1 k2⟩
end
theorem aQ.FH {d e:D}(p q:QG) (hp:d=ofPy p) (hq:e=ofPy q) (sp:shaped p=true) (sq:shaped q=true):aQ X n .Eq d e (QG.eqv p q):=fun A g s Q E v u R hg aW bt h=>by
 subst hp;subst hq
 obtain ⟨as,k1⟩:=Rep.reads hg p _ (Q5 sp) aW
 obtain ⟨bs,k2⟩:=Rep.reads hg q _ (Q5 sq) bt
 exact eq_dataH k1 k2 sp sq R.u h
theorem aQ.Mu {d e:D}(p q:QG) (hp:d=ofPy p) (hq:e=ofPy q) (sp:shaped p=true) (sq:shaped q=true):aQ X n .NotEq d e (!QG.eqv p q):=fun A g s Q E v u R hg aW bt h=>by
 subst hp;subst hq
 obtain ⟨as,k1⟩:=Rep.reads hg p _ (Q5 sp) aW
 obtain ⟨bs,k2⟩:=Rep.reads hg q _ (Q5 sq) bt
 exact ne_dataH k1 k2 sp sq R.u h
theorem jr {A:QE}{k:Nat}{p:QG}{qs:List QG}(R:cG A k) (sp:shaped p=true):A.units+1+min (QG.depthAll qs) p.depth<cLine:=by
 have h1:=depth_of_shaped sp
 have h2:min (QG.depthAll qs) p.depth≤p.depth:=Nat.min_le_right _ _
 have:=R.2.2
 show _<9900
 exact (Lq 4 0 [AF aj az] (ag (aq az (ae 64)) (ag (aq cM az) (ag (aq (ak aa (dO 12 a7)) (ae 6000)) (aD (ak (ak aa (ae 1)) cM) (ae 9900)))))) h1 h2 this
theorem aQ.N6 {d e:D}(p:QG) (qs:List QG) (hp:d=ofPy p) (hq:e=.list (ofPys qs)) (sp:shaped p=true) (sq:QG.canLayAll0 qs=true):aQ X n .In d e (qs.any fun y=>QG.eqv y p):=fun A g s Q E v u R hg aW bt h=>by
 subst hp;subst hq
 obtain ⟨as,k1⟩:=Rep.reads hg p _ (Q5 sp) aW
 obtain ⟨bs,k2⟩:=Rep.reads hg (.list qs) _ (by simpa [QG.canLay0] using sq) bt
 exact PySem.SeqAt.in_list_reads k2 k1 sq (Q5 sp) (jr R sp) h
theorem aQ.DZ {d e:D}(p:QG) (qs:List QG) (hp:d=ofPy p) (hq:e=.list (ofPys qs)) (sp:shaped p=true) (sq:QG.canLayAll0 qs=true):aQ X n .NotIn d e (!qs.any fun y=>QG.eqv y p):=fun A g s Q E v u R hg aW bt h=>by
 subst hp;subst hq
 obtain ⟨as,k1⟩:=Rep.reads hg p _ (Q5 sp) aW
 obtain ⟨bs,k2⟩:=Rep.reads hg (.list qs) _ (by simpa [QG.canLay0] using sq) bt
 exact PySem.SeqAt.notIn_list_reads k2 k1 sq (Q5 sp) (jr R sp) h
theorem aQ.yX {d e:D}(p:QG) (qs:List QG) (hp:d=ofPy p) (hq:e=.tup (ofPys qs)) (sp:shaped p=true) (sq:QG.canLayAll0 qs=true):aQ X n .NotIn d e (!qs.any fun y=>QG.eqv y p):=fun A g s Q E v u R hg aW bt h=>by
 subst hp;subst hq
 obtain ⟨as,k1⟩:=Rep.reads hg p _ (Q5 sp) aW
 obtain ⟨bs,k2⟩:=Rep.reads hg (.tuple qs) _ (by simpa [QG.canLay0] using sq) bt
 exact PySem.SeqAt.notIn_tuple_reads k2 k1 sq (Q5 sp) (jr R sp) h
noncomputable def D.isNone:D→Bool|.none=>true|_=>false
theorem aQ.isNone {d:D}:aQ X n .Is d .none d.isNone:=fun A g s Q E v u R hg aW bt h=>by
 obtain rfl:=bt.tu
 cases aW<;>exact wpAny_is_plain rfl h
theorem aQ.isNotNone {d:D}:aQ X n .IsNot d .none (!d.isNone):=fun A g s Q E v u R hg aW bt h=>by
 obtain rfl:=bt.tu
 cases aW<;>exact wpAny_isNot_plain rfl h
end
noncomputable def mX (A:QE) (f:FD):Prop:=(∃ outer,A.frames=some (f.env::outer))∧f.env.frame=some f.env.locals∧f.comp=false∧∀ p∈f.pin,p.1="self"
noncomputable def oN:Qy→List Qt:=fun _=>[]
section
variable {B:QL}{V:VI}{A:QE}{f:FD}{g g':GM}{o o':Qy→List Qt}{ρ:Rw}{b b':Array UInt8}{s s' dG:Qs}
theorem FR.forget (F:FR B V A f g o ρ b s):FR B V A f g oN [] b s :=
 have m:∀ a,Mod V f oN a→Mod V f o a:=fun a h=>by
  rcases h with h|h|⟨z,h⟩
  ·exact .inl h
  ·exact .inr (.inl h)
  ·cases h
 { F with f9:=fun a h=>F.f9 a (m a h),mB:=fun a h=>F.mB a (m a h),live:=fun a h=>F.live a (m a h),dY:=fun x a h=>(nomatch h),cX:=fun x y q a h=>(nomatch h),ic:=fun x a h=>(nomatch h),vars:=fun x e h=>(nomatch h),cells:=fun x c h=>⟨(F.cells x c h).c1,(F.cells x c h).c2,(F.cells x c h).c3,(F.cells x c h).c4,fun y q=>(nomatch q),(F.cells x c h).c6⟩,eC:=rfl }
theorem Step.forget (S:Step V A f g o s g' o' s'):Step V A f g o s g' oN s':={ S with on:=fun x a h=>(nomatch h) }
end
noncomputable def E2 (h base:QL) (e:Qt) (a0:Qr) (L:Qt):Prop :=
 (∃ oe vs,h.get? e=some oe∧oe.cls=.ref 51∧oe.data=.fields vs∧vs[0]?=some a0∧vs[1]?=some .none)∨h.TracedW base e (.ref 51) a0∨h.TracedAtW base e (.ref 51) a0 (RM L)
structure JN (A:QE) (L:Qt) (h₀:QL) (g:GM) (base:QL) (e:Qt) (a0:Qr) (h:QL):Prop where
 stays:base.StaysIn h
 new:base.get? e=none
 frames:∀ l,A.frames=some l→h.FunFrames base l
 st:E2 h base e a0 L
 lF:∀ a,a∉fL A→((∃ ob,h₀.get? a=some ob)∨g a≠none)→base.get? a=h.get? a
inductive XP (X:Cx) (A:QE) (f:FD) (g:GM) (o:Qy→List Qt) (s:Qs) (b:Array UInt8) (x:Qr) (s':Qs):Prop
 | mk (g':GM) (e:Qt) (base:QL) (a0:Qr) (h1:x=.ref e) (h2:FR X.B X.V A f g' oN [] b s') (h3:Step X.V A f g o s g' oN s') (h4:JN A f.env.locals s.heap g' base e a0 s'.heap)
section
variable {X:Cx}{A:QE}{f:FD}{g aE:GM}{o aN:Qy→List Qt}{ρ af:Rw}{b ao:Array UInt8}{s ah s':Qs}{x:Qr}
theorem XP.trans (S:Step X.V A f g o s aE aN ah) (P:XP X A f aE aN ah b x s'):XP X A f g o s b x s':=by
 obtain ⟨g',e,base,a0,rfl,F,S',Y⟩:=P
 refine ⟨g',e,base,a0,rfl,F,S.trans S',⟨Y.stays,Y.new,Y.frames,Y.st,fun a ha h=>Y.lF a ha ?_⟩⟩
 rcases h with ⟨ob,h⟩|h
 ·exact .inl (S.iW a ob h)
 ·exact .inr h
theorem XP.y8 {g':GM}{e:Qt}{base:QL}{a0:Qr}{h':QL}(ly:FR X.B X.V A f g o ρ ao s) (F:FR X.B X.V A f g' oN [] b s') (S:Step X.V A f g o s g' oN s') (Y:JN A f.env.locals s.heap g' base e a0 s'.heap)
  (k1:base.StaysIn h') (k2:∀ l,A.frames=some l→h'.FunFrames base l) (k3:E2 h' base e a0 f.env.locals) (k4:s'.heap.UpToSlots h') :
  FR X.B X.V A f g' oN [] b { s' with heap:=h' }∧Step X.V A f g o s g' oN { s' with heap:=h' }∧JN A f.env.locals s.heap g' base e a0 h':=by
 have lF:∀ a ob,a∉fL A→((∃ ob,s.heap.get? a=some ob)∨g' a≠none)→s'.heap.get? a=some ob→h'.get? a=some ob:=fun a ob ha h q =>
  k1 a ob ((Y.lF a ha h).trans q)
 have slt:∀ a ob,a∈fL A→s'.heap.get? a=some ob→∃ sl,h'.get? a=some { ob with slots:=sl }:=fun a ob ha q=>by
  obtain ⟨mv,h3,es,n,h4⟩:=F.da.dat ha
  cases ig h3 q
  exact k4 a ob h3 fun vs q=>by rw [h4] at q;cases q
 have iW:∀ a ob,s.heap.get? a=some ob→∃ b0,h'.get? a=some b0:=fun a ob q=>by
  obtain ⟨b0,q'⟩:=S.iW a ob q
  by_cases ha:a∈fL A
  ·obtain ⟨sl,h5⟩:=slt a b0 ha q'
   exact ⟨_,h5⟩
  ·exact ⟨b0,lF a b0 ha (.inl ⟨ob,q⟩) q'⟩
 refine ⟨?_,⟨⟨fun a ob q p r=>?_,fun a ob q p=>?_⟩,iW,S.gm,S.gn,fun _ _ h=>(nomatch h),S.os⟩,⟨k1,Y.new,k2,k3,fun a ha h=>?_⟩⟩
 ·refine { F with bC:=fun a ob q=>?_,gens:=F.gens,bf:=fun a ob q=>?_,live:=fun a h=>?_,view:=?_,vars:=fun x e h=>(nomatch h),kE:=?_,cells:=fun x c hc=>?_,da:=?_,pin:=fun p hp=>?_ }
  ·have hs:=ly.bC a ob q
   exact lF a ob (fun h=>by have:=F.fB a h;rw [q] at this;cases this) (.inl ⟨ob,hs⟩) (F.bC a ob q)
  ·exact lF a ob (fun h=>by have:=F.lE a h;rw [q] at this;cases this) (.inr (by rw [q];exact fun z=>nomatch z)) (F.bf a ob q)
  ·have:Mod X.V f o a:=by
    rcases h with h|h|⟨z,h⟩
    ·exact .inl h
    ·exact .inr (.inl h)
    ·cases h
   obtain ⟨ob,q⟩:=ly.live a this
   exact iW a ob q
  ·refine X.V.fj _ _ _ F.view fun a ha ob q=>lF a ob (F.ry a ha) (.inl (X.V.lfp _ _ ly.view a ha)) q
  ·obtain ⟨m,hn⟩:=F.kE
   exact ⟨m,k4.ns hn⟩
  ·have K:=F.cells x c hc
   obtain ⟨v,ob,c2,c3⟩:=K.c2
   obtain ⟨sl,h5⟩:=k4 c ob c2 fun vs q=>by rw [c3] at q;cases q
   exact { K with c2:=⟨v,_,h5,c3⟩ }
  ·refine F.da.slot fun a ha ob q=>?_
   obtain ⟨sl,h5⟩:=slt a ob ha q
   exact ⟨_,h5,fun h=>h⟩
  ·refine (F.pin p hp).move (fun m hn=>k4.ns hn) fun c hc ov Ia=>?_
   obtain ⟨ob,c2,c3⟩:=Ia
   obtain ⟨sl,h5⟩:=k4 c ob c2 fun vs q=>by rw [c3] at q;cases q
   exact ⟨_,h5,c3⟩
 ·exact lF a ob r (.inl ⟨ob,q⟩) (S.kept.keep a ob q p r)
 ·obtain ⟨sl,q'⟩:=S.kept.slot a ob q p
  by_cases ha:a∈fL A
  ·obtain ⟨AO,h5⟩:=slt a _ ha q'
   exact ⟨AO,h5⟩
  ·exact ⟨sl,lF a _ ha (.inl ⟨ob,q⟩) q'⟩
 ·have e1:=Y.lF a ha h
  cases q:s'.heap.get? a with
  | some ob=>rw [k1 a ob (e1.trans q),e1,q]
  | none =>
   rcases h with ⟨ob,h⟩|h
   ·obtain ⟨b0,q'⟩:=S.iW a ob h
    exact dP q q'
   ·cases q':g' a with
    | none=>exact absurd q' h
    | some ob=>have:=F.bf a ob q';exact dP q this
theorem XP.moved {g':GM}{e:Qt}{base:QL}{a0:Qr}{h':QL}(ly:FR X.B X.V A f g o ρ ao s) (F:FR X.B X.V A f g' oN [] b s') (S:Step X.V A f g o s g' oN s') (Y:JN A f.env.locals s.heap g' base e a0 s'.heap)
  (k1:base.StaysIn h') (k2:∀ l,A.frames=some l→h'.FunFrames base l) (k3:E2 h' base e a0 f.env.locals) (k4:s'.heap.UpToSlots h'):XP X A f g o s b (.ref e) { s' with heap:=h' } :=
 have M:=XP.y8 ly F S Y k1 k2 k3 k4
 ⟨g',e,base,a0,rfl,M.1,M.2.1,M.2.2⟩
inductive FL (h base:QL) (e:Qt) (a0 fl:Qr):Prop
 | mk (oe:R3) (vs:Array Qr) (T:Qt) (oT:R3) (ts:Array Qr) (h1:h.get? e=some oe) (h2:oe.cls=.ref 51) (Ir:vs[0]?=some a0) (h3:oe.data=.fields vs) (h4:vs[1]?=some (.ref T)) (h5:base.get? T=none) (h6:T≠e) (h7:h.get? T=some oT) (h8:oT.data=.fields ts) (h9:ts[3]?=some fl)
theorem FL.of {h base:QL}{e:Qt}{a0 fl:Qr}(x:h.TracedAtW base e (.ref 51) a0 fl):FL h base e a0 fl:=by
 obtain ⟨oe,vs,T,oT,ts,h1,⟨h2,Ir⟩,h3,h4,h5,h6,h7,h8,h9⟩:=x
 exact ⟨oe,vs,T,oT,ts,h1,h2,Ir,h3,h4,h5,h6,h7,h8,h9⟩
theorem E2.xZ {h base v5:QL}{e L:Qt}{a0 JJ Nx:Qr}(x:E2 h base e a0 L) (t:h.TracedAtW v5 e (.ref 51) JJ Nx):∃ fl,h.TracedAtW base e (.ref 51) a0 fl:=by
 rcases x with ⟨oe,vs,h1,h2,h3,h4,h5⟩|hT|hT
 ·obtain ⟨P6,vs',T',P7,P4,k1,_,_,k3,k4⟩:=FL.of t
  cases ig k1 h1
  rw [k3] at h3;cases h3
  cases ig k4 h5
 ·exact ⟨_,hT⟩
 ·exact ⟨_,hT⟩
theorem E2.there {h base:QL}{e L:Qt}{a0:Qr}(x:E2 h base e a0 L):∃ ob vs,h.get? e=some ob∧ob.cls=.ref 51∧ob.data=.fields vs:=by
 rcases x with ⟨oe,vs,h1,h2,h3,_⟩|t|t
 ·exact ⟨oe,vs,h1,h2,h3⟩
 ·obtain ⟨oe,vs,_,_,_,h1,h2,_,h3⟩:=FL.of t
  exact ⟨oe,vs,h1,h2,h3⟩
 ·obtain ⟨oe,vs,_,_,_,h1,h2,_,h3⟩:=FL.of t
  exact ⟨oe,vs,h1,h2,h3⟩
theorem XP.C7 {M:To}{E:Qr→Qs→Prop}{Q:Unit→Qs→Prop}(I:mX A f) (ly:FR X.B X.V A f g o ρ ao s) (P:XP X A f g o s b x s')
  (h:∀ dG,XP X A f g o s b x dG→(∃ e base a0,x=.ref e∧dG.heap.TracedAtW base e (.ref 51) a0 (RM f.env.locals))→Q () dG):QF M A (noteFrame x f.env) Q E s':=by
 obtain ⟨g',e,base,a0,rfl,F,S,Y⟩:=P
 obtain ⟨⟨outer,n8⟩,hf,Fz,Jo⟩:=I
 have fin:∀ h',QL.NotedW base (f.env::outer) e (.ref 51) a0 (RM f.env.locals) s'.heap h'→Q () { s' with heap:=h' }:=fun h' hN=>by
  obtain ⟨k1,k2,k3,k4⟩:=hN
  exact h _ (XP.moved ly F S Y k1 (fun l hl=>by cases ig n8 hl;exact k2) (.inr (.inr k3)) k4) ⟨e,base,a0,rfl,k3⟩
 rcases Y.st with ⟨oe,vs,h1,h2,h3,h4,h5⟩|hT|hT
 ·unfold noteFrame
  simp only [hf]
  refine Qq (RL h1 h3 h5 ?_)
  rw [if_neg av]
  exact wpAny_entryW n8 (Y.frames _ n8) hf h1 Y.stays Y.new h3 (Array.getElem?_eq_some_iff.mp h5).1 h4 (h2▸fin)
 ·exact wpAny_noteFrame_onW n8 (Y.frames _ n8) hf hT Y.stays Y.new fin
 ·exact TL hf hT (h _ ⟨g',e,base,a0,rfl,F,S,Y⟩ ⟨e,base,a0,rfl,hT⟩)
end
set_option genCtorIdx false in
inductive Fl where
 | next (ρ:Rw) (b:Array UInt8)
 | ret (d:D) (ρ:Rw) (b:Array UInt8)
 | exc (b:Array UInt8)
@[reducible] noncomputable def Fl.ctorIdx (d:Fl):Nat:=Fl.casesOn d (fun _ _=>0) (fun _ _ _=>1) fun _=>2
noncomputable def Ah (X:Cx) (A:QE) (f:FD) (g:GM) (o:Qy→List Qt) (s:Qs) (r:Fl) (Q:Vr→Qs→Prop) (E:Qr→Qs→Prop):Prop:=match r with
 | .next ρ b=>∀ g' o' s',FR X.B X.V A f g' o' ρ b s'→Step X.V A f g o s g' o' s'→Q .next s'
 | .ret d ρ b=>∀ v g' o' s',FR X.B X.V A f g' o' ρ b s'→Step X.V A f g o s g' o' s'→Rep g' X.V.obj v d→Q (.ret v) s'
 | .exc b=>∀ x s',XP X A f g o s b x s'→E x s'
theorem Ah.after {X:Cx}{A:QE}{f:FD}{g aE:GM}{o aN:Qy→List Qt}{s ah:Qs}{r:Fl}{Q:Vr→Qs→Prop}{E:Qr→Qs→Prop}(S:Step X.V A f g o s aE aN ah) (h:Ah X A f g o s r Q E):Ah X A f aE aN ah r Q E:=by
 cases r with
 | next ρ b=>exact fun g' o' s' F S'=>h g' o' s' F (S.trans S')
 | ret d ρ b=>exact fun v g' o' s' F S' r=>h v g' o' s' F (S.trans S') r
 | exc b=>exact fun x s' P=>h x s' (P.trans S)
noncomputable def S1 (X:Cx) (n:Nat) (sc:QM) (st:Rr) (ρ:Rw) (b:Array UInt8) (r:Fl):Prop :=
 ∀ (A:QE) (f:FD) (g:GM) (o:Qy→List Qt) (s:Qs) (Q:Vr→Qs→Prop) (E:Qr→Qs→Prop),cG A n→f.env.scope=sc→mX A f→FR X.B X.V A f g o ρ b s→Ah X A f g o s r Q E→QF (QJ X.prog X.w) A (exec st f.env) Q E s
noncomputable def SS (X:Cx) (n:Nat) (sc:QM) (st:List Rr) (ρ:Rw) (b:Array UInt8) (r:Fl):Prop :=
 ∀ (A:QE) (f:FD) (g:GM) (o:Qy→List Qt) (s:Qs) (Q:Vr→Qs→Prop) (E:Qr→Qs→Prop),cG A n→f.env.scope=sc→mX A f→FR X.B X.V A f g o ρ b s→Ah X A f g o s r Q E→QF (QJ X.prog X.w) A (Vl st f.env) Q E s
noncomputable def XE (X:Cx) (n:Nat) (sc:QM) (e:QR) (ρ:Rw) (b b':Array UInt8):Prop :=
 ∀ (A:QE) (f:FD) (g:GM) (o:Qy→List Qt) (s:Qs) (Q:Qr→Qs→Prop) (E:Qr→Qs→Prop),cG A n→f.env.scope=sc→FR X.B X.V A f g o ρ b s→(∀ x s',XP X A f g o s b' x s'→E x s')→QF (QJ X.prog X.w) A (eval e f.env) Q E s
noncomputable def XT (X:Cx) (n:Nat) (sc:QM) (e:QR) (ρ:Rw) (b b':Array UInt8):Prop :=
 ∀ (A:QE) (f:FD) (g:GM) (o:Qy→List Qt) (s:Qs) (Q:Bool→Qs→Prop) (E:Qr→Qs→Prop),cG A n→f.env.scope=sc→FR X.B X.V A f g o ρ b s→(∀ x s',XP X A f g o s b' x s'→E x s')→QF (QJ X.prog X.w) A (isTrue e f.env (eval e f.env)) Q E s
section
variable {X:Cx}{n:Nat}{sc:QM}{ρ af ay cN:Rw}{b ao b₂ eb:Array UInt8}{r:Fl}
theorem bX:SS X n sc [] ρ b (.next ρ b):=fun A f g o s Q E R hs I F h=>Te (h g o s F .refl)
theorem aG {st:Rr}{rest:List Rr}(h1:S1 X n sc st ρ b (.next af ao)) (h2:SS X n sc rest af ao r):SS X n sc (st::rest) ρ b r:=fun A f g o s Q E R hs I F h =>
 R7 (h1 A f g o s _ E R hs I F fun aE aN ah aA aP=>h2 A f aE aN ah Q E R hs I aA (h.after aP))
theorem bF {st:Rr}{rest:List Rr}{d:D}(h1:S1 X n sc st ρ b (.ret d af ao)):SS X n sc (st::rest) ρ b (.ret d af ao):=fun A f g o s Q E R hs I F h =>
 R7 (h1 A f g o s _ E R hs I F h)
theorem SS.exc {st:Rr}{rest:List Rr}(h1:S1 X n sc st ρ b (.exc ao)):SS X n sc (st::rest) ρ b (.exc ao):=fun A f g o s Q E R hs I F h =>
 R7 (h1 A f g o s _ E R hs I F h)
theorem SS.one {st:Rr}(h1:S1 X n sc st ρ b r):SS X n sc [st] ρ b r:=by
 cases r with
 | next ρ b=>exact aG h1 bX
 | ret d ρ b=>exact bF h1
 | exc b=>exact SS.exc h1
theorem bN {e:QR}{pos:Rd}{d:D}(h:SE X n sc e ρ b d af ao):S1 X n sc (.Return (some e) pos) ρ b (.ret d af ao):=fun A f g o s Q E R hs I F k =>
 Tt (h A f g o s _ E R hs F fun v g' o' s' F' S' r=>k v g' o' s' F' S'.toStep r)
theorem S1.DK {e:QR}{pos:Rd}(h:XE X n sc e ρ b ao):S1 X n sc (.Return (some e) pos) ρ b (.exc ao):=fun A f g o s Q E R hs I F k =>
 Tt (h A f g o s _ E R hs F k)
theorem S1.If {test:QR}{body orelse:List Rr}{pos:Rd}{t:Bool}(ht:ST X n sc test ρ b t af ao) (hT:t=true→SS X n sc body af ao r) (hF:t=false→SS X n sc orelse af ao r):S1 X n sc (.If test body orelse pos) ρ b r:=fun A f g o s Q E R hs I F k =>
 wpAny_If (ht A f g o s _ E R hs F fun aE aN ah aA aP=>by
  cases t with
  | true=>exact hT rfl A f aE aN ah Q E R hs I aA (k.after aP.toStep)
  | false=>exact hF rfl A f aE aN ah Q E R hs I aA (k.after aP.toStep))
theorem S1.qK {test:QR}{body orelse:List Rr}{pos:Rd}(ht:ST X n sc test ρ b true af ao) (hT:SS X n sc body af ao r):S1 X n sc (.If test body orelse pos) ρ b r:=S1.If ht (fun _=>hT) fun h=>nomatch h
theorem S1.kI {test:QR}{body orelse:List Rr}{pos:Rd}(ht:ST X n sc test ρ b false af ao) (hF:SS X n sc orelse af ao r):S1 X n sc (.If test body orelse pos) ρ b r:=S1.If ht (fun h=>nomatch h) fun _=>hF
theorem S1.ME {test:QR}{body orelse:List Rr}{pos:Rd}(ht:XT X n sc test ρ b ao):S1 X n sc (.If test body orelse pos) ρ b (.exc ao):=fun A f g o s Q E R hs I F k =>
 wpAny_If (ht A f g o s _ E R hs F k)
theorem qS {f:FD}(hk:f.env.scope.kind=.function):interactive f.env=false:=by unfold interactive;rw [hk];rfl
theorem dI {e:QR}{pos:Rd}{d:D}(h:SE X n sc e ρ b d af ao) (hs:autoParam (∀ env,swapsWith e none pos.line env=pure false) cw):S1 X n sc (.Expr e pos) ρ b (.next af ao):=fun A f g o s Q E R aY I F k =>
 TY (h A f g o s _ E R aY F fun v g' o' s' F' S' r=>k g' o' s' F' S'.toStep) (qS F.kind) (hs _)
theorem S1.zT {e:QR}{pos:Rd}(h:XE X n sc e ρ b ao) (hs:autoParam (∀ env,swapsWith e none pos.line env=pure false) cw):S1 X n sc (.Expr e pos) ρ b (.exc ao):=fun A f g o s Q E R aY I F k =>
 TY (h A f g o s _ E R aY F k) (qS F.kind) (hs _)
noncomputable def stN (sc:QM) (x:Qy):Bool:=(sc.names.lookup x==some .local||sc.names.lookup x==some .cell)&&x != bh&&x != ("self":Qy)
theorem stN.d {sc:QM}{x:Qy}(h:stN sc x=true):(sc.names.lookup x=some .local∨sc.names.lookup x=some .cell)∧x≠bh∧x≠("self":Qy):=by
 unfold stN at h
 simpa [and_assoc] using h
noncomputable def wc (f:FD) (sc:QM) (x:Qy):Prop:=stN sc x=true∧(f.comp=false∨sc.names.lookup x=some .local)∧∀ p∈f.pin,p.1=("self":Qy)
theorem mX.EV {A:QE}{f:FD}{x:Qy}(I:mX A f) (h:stN sc x=true):wc f sc x:=⟨h,.inl I.2.2.1,I.2.2.2⟩
theorem FR.lM {M:To}{A:QE}{f:FD}{g:GM}{o:Qy→List Qt}{s:Qs}{E:Qr→Qs→Prop}{Q:Unit→Qs→Prop}{x:Qy}{v:Qr}{e:En}{os:List Qt}(F:FR X.B X.V A f g o ρ b s) (aY:f.env.scope=sc) (hx:wc f sc x)
  (ja:∀ a∈os,a∈o bh∨a∈o x) (he:lz g X.V.obj s.heap os v e)
  (hQ:∀ g' o' s',FR X.B X.V A f g' o' (aS ρ x e) b s'→Step X.V A f g o s g' o' s'→g'=g∧o'=wY o x os∧(∀ a ob,a∉f.fx→s.heap.get? a=some ob→s'.heap.get? a=some ob)→Q () s'):QF M A (storeName f.env x v) Q E s:=by
 obtain ⟨h1,h2,h3⟩:=stN.d hx.1
 subst aY
 refine F.store ?_ h2 (fun p hp q=>h3 (q.symm.trans (hx.2.2 p hp))) ja he fun s' F' S' k=>hQ _ _ s' F' S' ⟨rfl,rfl,k⟩
 rcases hx.2.1 with q|q
 ·exact h1.imp id fun h=>⟨q,h⟩
 ·exact .inl q
theorem cj {x:Qy}{pos' pos:Rd}{value:QR}{d:D}(h:SE X n sc value ρ b d af ao) (hx:autoParam (stN sc x=true) bG) (hs:autoParam (∀ env,swapsWith value (some (.Name x pos')) pos.line env=pure false) cw) :
  S1 X n sc (.Assign [.Name x pos'] value pos) ρ b (.next (aS af x (.val d)) ao):=fun A f g o s Q E R aY I F k =>
 Un (h A f g o s _ E R aY F fun v g' o' s' F' S' r=>FR.lM (os:=[]) (e:=.val d) F' aY (I.EV hx) (fun a h=>(nomatch h)) r fun gF rl dG th xB _=>k gF rl dG th (S'.toStep.trans xB)) (hs _)
theorem XT.II {l r:QR}{op:Vs}{pos:Rd}(h:XE X n sc l ρ b ao) (hm:autoParam (behindInMarks op r=false) wy):XT X n sc (.Compare l [op] [r] pos) ρ b ao:=fun A f g o s Q E R hs F k =>
 Sw (h A f g o s _ E R hs F k) hm
theorem aF:rh X n sc [] ρ b [] ρ b:=fun pos A f g o s Q E R hs F h=>Tu (h [] g o s F .refl .nil)
theorem au {e:QR}{es:List QR}{d:D}{ds:List D}(h1:SE X n sc e ρ b d af ao) (h2:rh X n sc es af ao ds ay b₂) (cv:autoParam (∀ env,QS (e::es) env=(false,eval e env)::QS es env) cw) :
  rh X n sc (e::es) ρ b (d::ds) ay b₂:=fun pos A f g o s Q E R hs F h=>by
 rw [cv]
 exact S2 (h1 A f g o s _ E R hs F fun v aE aN ah aA aP aW=>h2 pos A f aE aN ah _ E R hs aA fun vs bl cx bk aM aO bt=>h (v::vs) bl cx bk aM (aP.trans aO) (.cons (aW.mono aO.gm) bt))
set_option genCtorIdx false in
inductive Rs where
 | ok (d:D) (b:Array UInt8)
 | exc (b:Array UInt8)
@[reducible] noncomputable def Rs.ctorIdx (d:Rs):Nat:=Rs.casesOn d (fun _ _=>0) fun _=>1
inductive XC (X:Cx) (A:QE) (g:GM) (s:Qs) (b:Array UInt8) (x:Qr) (s':Qs):Prop
 | mk (g':GM) (e:Qt) (base:QL) (a0:Qr) (h1:x=.ref e) (h2:eW X.V A g s g' b s') (h3:∀ l,A.frames=some l→QL.FlyingW base l e (.ref 51) a0 s'.heap)
  (h4:∀ a,a∉fL A→((∃ ob,s.heap.get? a=some ob)∨g' a≠none)→base.get? a=s'.heap.get? a)
noncomputable def IQ (X:Cx) (A:QE) (g:GM) (s:Qs) (r:Rs) (Q:Qr→Qs→Prop) (E:Qr→Qs→Prop):Prop:=match r with
 | .ok d b=>∀ v g' s',eW X.V A g s g' b s'→Rep g' X.V.obj v d→Q v s'
 | .exc b=>∀ x s',XC X A g s b x s'→E x s'
noncomputable def cb (X:Cx) (n:Nat) (a:Qt) (ds:List D) (b:Array UInt8) (r:Rs):Prop :=
 ∀ (A:QE) (f:FD) (g:GM) (o:Qy→List Qt) (ρ:Rw) (s:Qs) (vs:List Qr) (Q:Qr→Qs→Prop) (E:Qr→Qs→Prop),cG A n→FR X.B X.V A f g o ρ b s→aB g X.V.obj vs ds →
  IQ X A g s r Q E→QF (QJ X.prog X.w) A (call (.ref a) vs) Q E s
theorem XC.JT {A:QE}{f:FD}{g:GM}{o:Qy→List Qt}{s s':Qs}{x:Qr}(F:FR X.B X.V A f g o ρ b s) (P:XC X A g s ao x s'):XP X A f g o s ao x s':=by
 obtain ⟨g',e,base,a0,rfl,C,fl,lF⟩:=P
 obtain ⟨outer,ho,_⟩:=F.da
 have k:=fl _ ho
 exact ⟨g',e,base,a0,rfl,(F.after C).forget,C.step.forget,⟨k.1,k.2.1,fun l hl=>(fl l hl).2.2.1,.inr (.inl k.2.2.2),lF⟩⟩
structure l8 (X:Cx) (a:Qt) (fd:RD) (sc:QM) (names:List Qy) (body:List Rr):Prop where
 obj:∃ o,X.B.get? a=some o∧o.data=.func fd
 code:X.B.CodeRec fd.code fd.qualname
 Fg:fd.scope=sc
 body:fd.body=.stmts body
 bind:∀ vs:List Qr,vs.length=names.length→bindArgs fd ⟨vs,[]⟩=pure (names.zip vs)
 FJ:fd.closure=[]
 co:sc.isCoroutine=false
 gen:sc.isGenerator=false
 kind:sc.kind=.function
 glob:fd.globals=QY
 blt:fd.builtins=Ra
theorem bp {x:Qy}{np pos:Rd}{args:List QR}{a:Qt}{fd:RD}{sc':QM}{names:List Qy}{body:List Rr}{ds:List D}{d:D}(hx:X.mg x=some (.ref a)) (hF:l8 X a fd sc' names body) (gE:rh X n sc args ρ b ds af ao) (hf:cb X n a ds ao (.ok d b₂))
  (hk:autoParam (sc.names.lookup x=some .globalImplicit) bG) (hn:autoParam (okN x=true) bG) (cy:autoParam (∀ env,∃ t rest,backTo pos (QS args env)=(false,t)::rest) IZ):SE X n sc (.Call (.Name x np) args [] pos) ρ b d af b₂:=fun A f g o s Q E R hs F h=>by
 refine RG (Gl F (by rw [hs];exact hk) hx hn ?_)
 obtain ⟨t,rest,e⟩:=cy f.env
 obtain ⟨ob,ho,hd⟩:=hF.obj
 show QF _ A (callWith pos (.ref a) [] (backTo pos (QS args f.env)) []) Q E s
 rw [e]
 refine Uo (o:=ob) (fd:=fd) (Rv ?_)
 rw [← e]
 exact gE pos A f g o s _ E R hs F fun vs g' o' s' F' S' r'=>⟨⟨F'.bC _ _ ho,hd⟩,hf A f g' o' af s' vs Q E R F' r' fun v gF dG C NR=>h v gF o' dG (F'.after C) (S'.trans (C.mq F')) NR⟩
theorem XE.call {x:Qy}{np pos:Rd}{args:List QR}{a:Qt}{fd:RD}{sc':QM}{names:List Qy}{body:List Rr}{ds:List D}(hx:X.mg x=some (.ref a)) (hF:l8 X a fd sc' names body) (gE:rh X n sc args ρ b ds af ao) (hf:cb X n a ds ao (.exc b₂))
  (hk:autoParam (sc.names.lookup x=some .globalImplicit) bG) (hn:autoParam (okN x=true) bG) (cy:autoParam (∀ env,∃ t rest,backTo pos (QS args env)=(false,t)::rest) IZ):XE X n sc (.Call (.Name x np) args [] pos) ρ b b₂:=fun A f g o s Q E R hs F h=>by
 refine RG (Gl F (by rw [hs];exact hk) hx hn ?_)
 obtain ⟨t,rest,e⟩:=cy f.env
 obtain ⟨ob,ho,hd⟩:=hF.obj
 show QF _ A (callWith pos (.ref a) [] (backTo pos (QS args f.env)) []) Q E s
 rw [e]
 refine Uo (o:=ob) (fd:=fd) (Rv ?_)
 rw [← e]
 exact gE pos A f g o s _ E R hs F fun vs g' o' s' F' S' r'=>⟨⟨F'.bC _ _ ho,hd⟩,hf A f g' o' af s' vs Q E R F' r' fun x dG C=>h x dG ((C.JT F').trans S'.toStep)⟩
end
theorem get_none {h:QL}{a:Qt}(ha:h.objs.size≤a):h.get? a=none:=QL.get?_none_of_le ha
structure ef (V:VI) (A:QE) (W:Qt→Prop) (g:GM) (s:Qs) (g':GM) (b':Array UInt8) (s':Qs):Prop where
 kept:Kept (fun a=>a∈V.mt∨W a) (fL A) s.heap s'.heap
 iW:∀ a ob,s.heap.get? a=some ob→∃ b0,s'.heap.get? a=some b0
 gens:s'.gens=#[]
 os:s'.os=s.os
 gm:∀ a ob,g a=some ob→g' a=some ob
 gn:∀ a,g a=none→g' a≠none→W a∨s.heap.get? a=none
 bf:∀ a ob,g' a=some ob→s'.heap.get? a=some ob
 view:V.R s'.heap b'
theorem ef.plain {V:VI}{A:QE}{g g':GM}{s s':Qs}{b':Array UInt8}(P:ef V A (fun _=>False) g s g' b' s'):eW V A g s g' b' s' :=
 ⟨P.kept.weaken (fun a o _ h=>h.elim id False.elim) fun a o _ h=>.inl h,P.iW,P.gens,P.os,P.gm,fun a h h'=>(P.gn a h h').elim False.elim id,P.bf,P.view⟩
section
variable {B:QL}{V:VI}{A:QE}{f:FD}{g g':GM}{o o' o0:Qy→List Qt}{ρ ki ρ':Rw}{b b':Array UInt8}{s ah s':Qs}{env:TU}{m cm:Qy→Option Qr}{pin:List (Qy×Qr)}
noncomputable def bB (env:TU) (pin:List (Qy×Qr)):FD:=⟨env,env.locals::env.cells.filterMap (fun p=>env.cells.lookup p.1),false,pin⟩
theorem D7 {a:Qt}(h:a∈(bB env pin).fx):a=env.locals∨∃ n,env.cells.lookup n=some a:=by
 rcases bS h with rfl|h
 ·exact .inl rfl
 ·obtain ⟨⟨n,c⟩,hm,e⟩:=Ss.mp h
  exact .inr ⟨n,e⟩
theorem dT {a:Qt}(x:InCallC s env.locals m env.cells cm ah) (h:a∈(bB env pin).fx):s.heap.get? a=none∧∃ ob,ah.heap.get? a=some ob:=by
 rcases D7 h with rfl|⟨n,hn⟩
 ·obtain ⟨ob,_,_,e,_⟩:=x.toInCall.ns
  exact ⟨get_none x.toInCall.fresh,ob,e⟩
 ·refine ⟨get_none (R9 (Q8 x.toInCall.fresh (x.above n a (mem_of_lookup hn)))),?_⟩
  obtain ⟨ob,e,_⟩:=x.cell n a hn
  exact ⟨ob,e⟩
theorem vQ {n:Qy}{c:Qt}(h:env.cells.lookup n=some c):c∈(bB env pin).fx :=
 QD _ (Ss.mpr ⟨(n,c),mem_of_lookup h,h⟩)
theorem dZ {outer:List TU}(hA:A.frames=some outer) (hf:env.frame=some env.locals):(A.deeper env).frames=some (env::outer)∧fL (A.deeper env)=env.locals::fL A:=by
 have e1:(A.deeper env).frames=some (env::outer):=by
  show A.frames.map (env::·)=_
  rw [hA];rfl
 refine ⟨e1,?_⟩
 unfold fL
 rw [e1,hA]
 simp [hf]
theorem FR.enter (F:FR B V A f g o ρ b s) (x:InCallC s env.locals m env.cells cm ah) (hf:env.frame=some env.locals) (hk:env.scope.kind=.function) (hg:env.globals=QY∧env.builtins=Ra)
  (vM:∀ y,env.kindOf y=some .cell→(env.cells.lookup y).isSome=true)
  (hv:∀ y e,lk ki y=some e→∃ v,cI ah.heap env y v∧lz g V.obj s.heap (o0 y) v e)
  (ho:∀ y a,a∈o0 y→(∃ ob,s.heap.get? a=some ob)∧g a=none∧B.get? a=none∧a∉fL A∧a∉V.fp) (Dg:∀ y z,y≠z→∀ a∈o0 y,a∉o0 z) (ht:lk ki bh=none)
  (hp:∀ p∈pin,cI ah.heap env p.1 p.2):FR B V (A.deeper env) (bB env pin) g o0 ki b ah:=by
 have keep:=x.toInCall.keep
 obtain ⟨h₁,tk,jd⟩:=x.toInCall.same
 obtain ⟨outer,hA,n8⟩:=F.da
 obtain ⟨d1,d2⟩:=dZ hA hf
 have uM:∀ a,s.heap.get? a=none→B.get? a=none:=fun a h=>by
  cases q:B.get? a with
  | none=>rfl
  | some ob=>have:=F.bC a ob q;exact dP h this
 have Px:∀ a∈V.fp,∃ ob,s.heap.get? a=some ob:=V.lfp _ _ F.view
 have fresh_ne:∀ {a},s.heap.get? a=none→a∉V.fp:=fun {a} h hm=>by
  obtain ⟨ob,q⟩:=Px a hm
  exact dP h q
 have zM:∀ {a},s.heap.get? a=none→a∉fL A:=fun {a} h hm=>by
  obtain ⟨ob,q⟩:=F.da.live hm
  exact dP h q
 have Lf:s.heap.get? env.locals=none:=get_none x.toInCall.fresh
 refine { bC:=fun a ob q=>keep a ob (F.bC a ob q),gens:=by rw [jd];exact F.gens,bf:=fun a ob q=>keep a ob (F.bf a ob q),lE:=fun a h=>?_,f9:=fun a h=>?_,mB:=fun a h=>?_,fB:=fun a h=>?_,live:=fun a h=>?_,dY:=fun y a h=>?_,cX:=Dg,ic:=fun y a h=>?_,uu:=fun a h=>fresh_ne (dT x h).1,ry:=fun a h q=>?_,view:=?_,vars:=fun y e h=>?_,kind:=hk,glob:=hg,ib:=QB,kE:=⟨_,x.toInCall.ns⟩,LB:=?_,cells:=fun y c hc=>?_,lg:=vM,rb:=fun y z c hy hz=>Va x.apart (mem_of_lookup hy) (mem_of_lookup hz),da:=?_,eC:=ht,pin:=hp }
 ·rw [d2] at h
  rcases bS h with rfl|h
  ·exact F.qR Lf
  ·exact F.lE a h
 ·rcases h with h|h|⟨z,h⟩
  ·exact F.qR (dT x h).1
  ·exact F.f9 a (.inr (.inl h))
  ·exact (ho z a h).2.1
 ·rcases h with h|h|⟨z,h⟩
  ·exact uM a (dT x h).1
  ·exact F.mB a (.inr (.inl h))
  ·exact (ho z a h).2.2.1
 ·rw [d2] at h
  rcases bS h with rfl|h
  ·exact uM _ Lf
  ·exact F.fB a h
 ·rcases h with h|h|⟨z,h⟩
  ·exact (dT x h).2
  ·obtain ⟨ob,q⟩:=F.live a (.inr (.inl h))
   exact ⟨ob,keep a ob q⟩
  ·obtain ⟨ob,q⟩:=(ho z a h).1
   exact ⟨ob,keep a ob q⟩
 ·refine ⟨fun q=>?_,(ho y a h).2.2.2.2⟩
  obtain ⟨ob,q'⟩:=(ho y a h).1
  exact dP ((dT x q).1) q'
 ·rw [d2]
  refine fun q=>?_
  rcases bS q with rfl|q
  ·obtain ⟨ob,q'⟩:=(ho y _ h).1
   exact dP Lf q'
  ·exact (ho y a h).2.2.2.1 q
 ·rw [d2] at q
  rcases bS q with rfl|q
  ·exact fresh_ne Lf h
  ·exact F.ry a h q
 ·exact V.fj _ _ _ F.view fun a _ ob q=>keep a ob q
 ·obtain ⟨v,h1,h2⟩:=hv y e h
  exact ⟨v,h1,h2.mono (fun _ _ q=>q) fun a _ ob q=>keep a ob q⟩
 ·obtain ⟨m',ob,_,_,e,_⟩:=F.kE
  exact Qx F.LB (Qx (R9 (Rt e)) x.toInCall.fresh)
 ·have Lj:=x.cell y c hc
  have FE:=x.above y c (mem_of_lookup hc)
  have Ll:s.heap.get? c=none:=get_none (R9 (Q8 x.toInCall.fresh FE))
  refine ⟨R0 FE,⟨_,Lj⟩,?_,fresh_ne Ll,fun z hz=>?_,fun _ _=>vQ hc⟩
  ·rw [d2]
   refine fun q=>?_
   rcases bS q with q|q
   ·exact absurd q (R0 FE)
   ·exact zM Ll q
  ·obtain ⟨ob,q'⟩:=(ho z c hz).1
   exact dP Ll q'
 ·refine ⟨env::outer,d1,fun IC he=>?_⟩
  rcases bS he with rfl|he
  ·obtain ⟨ob,es,n,e,hd,_⟩:=x.toInCall.ns
   exact ⟨hk,_,ob,hf,e,⟨_,_,hd⟩,uM _ Lf⟩
  ·obtain ⟨k1,L',ob,k2,k3,k4,k5⟩:=n8 IC he
   exact ⟨k1,L',ob,k2,keep _ _ k3,k4,k5⟩
theorem ef.qz (F:FR B V A f g o ρ b s) (x:InCallC s env.locals m env.cells cm ah) (hf:env.frame=some env.locals) (F':FR B V (A.deeper env) (bB env pin) g' o' ρ' b' s')
  (S:Step V (A.deeper env) (bB env pin) g o0 ah g' o' s'):ef V A (fun a=>∃ y,a∈o0 y) g s g' b' s':=by
 have keep:=x.toInCall.keep
 obtain ⟨h₁,tk,jd⟩:=x.toInCall.same
 obtain ⟨outer,hA,n8⟩:=F.da
 obtain ⟨d1,d2⟩:=dZ hA hf
 have np:∀ a ob,s.heap.get? a=some ob→¬ (a∈V.mt∨∃ y,a∈o0 y)→¬ Mod V (bB env pin) o0 a:=fun a ob q h k=>by
  rcases k with k|k|k
  ·exact dP ((dT x k).1) q
  ·exact h (.inl k)
  ·exact h (.inr k)
 refine ⟨⟨fun a ob q p r=>?_,fun a ob q p=>?_⟩,fun a ob q=>S.iW a ob (keep a ob q),F'.gens,S.os.trans (by rw [jd]),S.gm,fun a q q'=>?_,F'.bf,F'.view⟩
 ·refine S.kept.keep a ob (keep a ob q) (np a ob q p) ?_
  rw [d2]
  refine fun h=>?_
  rcases bS h with rfl|h
  ·exact dP (get_none x.toInCall.fresh) q
  ·exact r h
 ·exact S.kept.slot a ob (keep a ob q) (np a ob q p)
 ·rcases S.gn a q q' with h|h
  ·exact .inl h
  ·refine .inr ?_
   cases e:s.heap.get? a with
   | none=>rfl
   | some ob=>rw [keep a ob e] at h;cases h
end
theorem mI {X:Cx}{A:QE}{f:FD}{g:GM}{o o0:Qy→List Qt}{ρ ki:Rw}{b b':Array UInt8}{s ah s':Qs}{env:TU}{m cm:Qy→Option Qr}{pin:List (Qy×Qr)} {M:To}{xv:Qr}{Q:Unit→Qs→Prop}{E:Qr→Qs→Prop}
  (F:FR X.B X.V A f g o ρ b s) (x:InCallC s env.locals m env.cells cm ah) (hf:env.frame=some env.locals) (aA:FR X.B X.V (A.deeper env) (bB env pin) g o0 ki b ah) (P:XP X (A.deeper env) (bB env pin) g o0 ah b' xv s')
  (hQ:∀ dG g' e base a0,xv=.ref e→ef X.V A (fun a=>∃ y,a∈o0 y) g s g' b' dG→(∀ l,A.frames=some l→QL.FlyingW base l e (.ref 51) a0 dG.heap)→(∀ a,a∉fL A→((∃ ob,s.heap.get? a=some ob)∨g' a≠none)→base.get? a=dG.heap.get? a)→Q () dG) :
  QF M (A.deeper env) (leaving env xv) Q E s':=by
 obtain ⟨g',e,base,a0,rfl,F',S,Y⟩:=P
 obtain ⟨outer,hA,n8⟩:=F.da
 obtain ⟨d1,d2⟩:=dZ hA hf
 have fin:∀ h',base.StaysIn h'→h'.FunFrames base (env::outer)→h'.TracedW base e (.ref 51) a0→s'.heap.UpToSlots h'→Q () { s' with heap:=h' }:=fun h' k1 k2 k3 k4=>by
  obtain ⟨th,xB,PQ⟩:=XP.y8 aA F' S Y k1 (fun l hl=>by cases ig d1 hl;exact k2) (.inr (.inl k3)) k4
  refine hQ _ g' e base a0 rfl (ef.qz F x hf th xB) (fun l hl=>?_) fun a ha h=>?_
  ·cases ig hA hl
   obtain ⟨_,_,k2⟩:=k2
   exact ⟨k1,Y.new,k2,k3⟩
  ·refine PQ.lF a ?_ ?_
   ·rw [d2]
    refine fun q=>?_
    rcases bS q with rfl|q
    ·rcases h with ⟨ob,h⟩|h
     ·exact dP (get_none x.toInCall.fresh) h
     ·exact h (th.lE _ (by rw [d2];exact QB))
    ·exact ha q
   ·rcases h with ⟨ob,h⟩|h
    ·exact .inl ⟨ob,x.toInCall.keep a ob h⟩
    ·exact .inr h
 have hF:=Y.frames _ d1
 rcases Y.st with ⟨oe,vs,h1,h2,h3,h4,h5⟩|hT|hT
 ·exact wpAny_leaving_firstW d1 hF hf h1 Y.stays Y.new h3 h5 h4 fun h' ⟨k1,k2,k3,k4⟩=>fin h' k1 k2 (h2▸k3) k4
 ·exact wpAny_leaving_nextW d1 hF hf hT Y.stays Y.new fun h' ⟨k1,k2,k3,k4⟩=>fin h' k1 k2 k3 k4
 ·unfold leaving
  exact Qq (TL hf hT (wpAny_landsW ⟨Y.stays,Y.new,hF,hT⟩ fun h' lB k4=>fin h' lB.1 lB.2.2.1 lB.2.2.2 k4))
theorem tX {x:Qy}:∀ (names:List (Qy×Rg)) (n:Nat) (acc:List (Qy×Qt)),(acc.lookup x).isSome=true→((cellsFrom n names acc).lookup x).isSome=true:=fun names=>by
 induction names with
 | nil =>
  exact fun _ _ h=>h
 | cons lq r bA =>
  obtain ⟨y,k⟩:=lq
  intro n acc h
  unfold cellsFrom
  split
  ·refine bA _ _ ?_
   rw [Ro]
   split
   ·rfl
   ·exact h
  ·exact bA _ _ h
theorem cellsFrom_some {x:Qy}:∀ (names:List (Qy×Rg)) (n:Nat) (acc:List (Qy×Qt)),names.lookup x=some .cell→((cellsFrom n names acc).lookup x).isSome=true:=fun names=>by
 induction names with
 | nil =>
  exact fun _ _ h=>by simp at h
 | cons lq r bA =>
  obtain ⟨y,k⟩:=lq
  intro n acc h
  rw [Ro] at h
  unfold cellsFrom
  cases q:x==y with
  | true =>
   rw [q] at h;cases h
   rw [if_pos (show (Rg.cell==Rg.cell)=true from rfl)]
   refine tX r _ _ ?_
   rw [Ro,q];rfl
  | false =>
   rw [q] at h
   split
   ·exact bA _ _ h
   ·exact bA _ _ h
theorem xw {K:Qy→Option Rg}{x:Qy}:∀ (l:List (Qy×Qr)) (m:Qy→Option Qr),x∉l.map (·.1)→bindL K l m x=m x:=fun l=>by
 induction l with
 | nil =>
  exact fun _ _=>rfl
 | cons lq r bA =>
  obtain ⟨y,v⟩:=lq
  intro m h
  simp only [QT,R1,not_or] at h
  unfold bindL
  rw [bA _ h.2]
  split
  ·exact if_neg h.1
  ·rfl
theorem xx {K:Qy→Option Rg}{x:Qy}:∀ (l:List (Qy×Qr)) (m:Qy→Option Qr),x∉l.map (·.1)→bindC K l m x=m x:=fun l=>by
 induction l with
 | nil =>
  exact fun _ _=>rfl
 | cons lq r bA =>
  obtain ⟨y,v⟩:=lq
  intro m h
  simp only [QT,R1,not_or] at h
  unfold bindC
  rw [bA _ h.2]
  split
  ·rfl
  ·exact if_neg h.1
theorem iA {K:Qy→Option Rg}{x:Qy}{v:Qr}(hK:K x=some .local):∀ (l:List (Qy×Qr)) (m:Qy→Option Qr),(l.map (·.1)).Nodup→l.lookup x=some v→bindL K l m x=some v:=fun l=>by
 induction l with
 | nil =>
  exact fun _ _ h=>by simp at h
 | cons lq r bA =>
  obtain ⟨y,u⟩:=lq
  intro m hn h
  rw [QT,RH] at hn
  rw [Ro] at h
  unfold bindL
  cases q:x==y with
  | true =>
   rw [q] at h;cases h
   have:x=y:=beq_iff_eq.mp q
   subst this
   rw [xw r _ hn.1,if_pos hK,if_pos rfl]
  | false=>rw [q] at h;exact bA _ hn.2 h
theorem oG {K:Qy→Option Rg}{x:Qy}{v:Qr}(hK:K x≠some .local):∀ (l:List (Qy×Qr)) (m:Qy→Option Qr),(l.map (·.1)).Nodup→l.lookup x=some v→bindC K l m x=some v:=fun l=>by
 induction l with
 | nil =>
  exact fun _ _ h=>by simp at h
 | cons lq r bA =>
  obtain ⟨y,u⟩:=lq
  intro m hn h
  rw [QT,RH] at hn
  rw [Ro] at h
  unfold bindC
  cases q:x==y with
  | true =>
   rw [q] at h;cases h
   have:x=y:=beq_iff_eq.mp q
   subst this
   rw [xx r _ hn.1,if_neg hK,if_pos rfl]
  | false=>rw [q] at h;exact bA _ hn.2 h
theorem fC {α β:Type}:∀ (xs:List α) (ys:List β),xs.length=ys.length→(xs.zip ys).map (·.1)=xs
 | [],_,_=>by simp
 | x::xs,[],h=>by simp at h
 | x::xs,y::ys,h=>by simp only [Si,QT];rw [fC xs ys (by simpa using h)]
theorem lU {α:Type}{x:Qy}{e:α}:∀ {l:List (Qy×α)},lk l x=some e→x∈l.map (·.1):=by
 intro l
 induction l with
 | nil =>
  exact fun h=>by cases h
 | cons lq r bA =>
  obtain ⟨y,u⟩:=lq
  intro h
  by_cases q:x=y
  ·subst q;exact QB
  ·exact QD _ (bA ((if_neg q).symm.trans h))
theorem tY {g:GM}{vw:Nat→Option Qt}{x:Qy}{e:En}:∀ {names:List Qy}{vs:List Qr}{ds:List D},aB g vw vs ds→lk (names.zip (ds.map En.val)) x=some e→∃ v d,e=.val d∧(names.zip vs).lookup x=some v∧Rep g vw v d:=by
 intro names
 induction names with
 | nil=>exact fun _ h=>dP rfl h
 | cons y names ih =>
  intro vs ds r h
  cases ds with
  | nil=>exact dP rfl h
  | cons d ds =>
   obtain ⟨v,vs,rfl,r1,r2⟩:=aB.jl r
   change ite _ _ _=_ at h
   rw [Si,Ro]
   by_cases q:x=y
   ·subst q
    cases ig (if_pos rfl) h
    exact ⟨v,d,rfl,by simp,r1⟩
   ·rw [if_neg q] at h
    obtain ⟨v',d',h1,h2,h3⟩:=ih r2 h
    have:(x==y)=false:=by simpa using q
    exact ⟨v',d',h1,by rw [this];exact h2,h3⟩
noncomputable def Fl.JU:Fl→Rs
 | .next _ b=>.ok .none b
 | .ret d _ b=>.ok d b
 | .exc b=>.exc b
noncomputable def o8 (sc:QM) (names:List Qy):Bool:=names.all (fun x=>(sc.names.lookup x==some .local||sc.names.lookup x==some .cell)&&x != bh)&&decide names.Nodup
theorem cb.intro {X:Cx}{n:Nat}{a:Qt}{fd:RD}{sc:QM}{names:List Qy}{body:List Rr}{ds:List D}{b:Array UInt8}{r:Fl}(hF:l8 X a fd sc names body) (hl:ds.length=names.length) (hN:o8 sc names=true)
  (h:SS X n sc body (names.zip (ds.map En.val)) b r):cb X (n+1) a ds b r.JU:=fun A f g o ρ s vs Q E R F hr k=>by
 obtain ⟨ob,ho,hd⟩:=hF.obj
 have aY:=hF.Fg
 have td:vs.length=names.length:=hr.length.trans hl
 simp only [o8,R5,R4,decide_eq_true_eq,Uc,beq_iff_eq,bne_iff_ne] at hN
 obtain ⟨xj,EB⟩:=hN
 have jc:∀ p∈names.zip vs,p.1∈names:=fun p hp=>(Ue (a:=p.1) (b:=p.2) hp).1
 refine Sy (Tp (fd:=fd) (binds:=names.zip vs) R.d (F.bC _ _ ho) hd (X.lim.keeps F.bC) (hF.code.keeps F.bC) hF.body (hF.bind vs td) hF.FJ (fun p hp=>?_) (fun ah x=>?_) (aY▸hF.co) (aY▸hF.gen) (aY▸hF.kind))
 ·rw [aY]
  rcases (xj p.1 (jc p hp)).1 with q|q
  ·exact .inl q
  ·exact .inr ⟨q,cellsFrom_some _ _ _ q⟩
 ·generalize gD:callEnvC fd s.heap.objs.size a=env at x ⊢
  have e1:env.scope=sc:=by rw [← gD];exact aY
  have e2:env.frame=some env.locals:=by rw [← gD];rfl
  have e3:env.globals=QY:=by rw [← gD];exact hF.glob
  have e4:env.builtins=Ra:=by rw [← gD];exact hF.blt
  have e5:env.cells=cellsFrom (s.heap.objs.size+1) sc.names []:=by rw [← gD,← aY];rfl
  have vM:∀ y,env.kindOf y=some .cell→(env.cells.lookup y).isSome=true:=fun y q=>by
   rw [e5]
   refine cellsFrom_some _ _ _ ?_
   rw [← e1];exact q
  have hz:(names.zip vs).map (·.1)=names:=fC _ _ td.symm
  have aA:FR X.B X.V (A.deeper env) (bB env []) g oN (names.zip (ds.map En.val)) b ah:=by
   refine F.enter x e2 (by rw [e1];exact hF.kind) ⟨e3,e4⟩ vM (fun y e hy=>?_) (fun y a h=>(nomatch h)) (fun y z _ a h=>(nomatch h)) ?_ (fun p h=>(nomatch h))
   ·obtain ⟨v,d,rfl,h2,h3⟩:=tY hr hy
    refine ⟨v,?_,h3⟩
    have Hy:y∈names:=by
     have:=lU hy
     rwa [fC _ _ (by rw [Qu];exact hl.symm)] at this
    rcases (xj y Hy).1 with q|q
    ·have q':env.kindOf y=some .local:=by show env.scope.names.lookup y=_;rw [e1];exact q
     exact .inl ⟨q',_,x.toInCall.ns,iA q' _ _ (by rw [hz];exact EB) h2⟩
    ·have q':env.kindOf y=some .cell:=by show env.scope.names.lookup y=_;rw [e1];exact q
     obtain ⟨c,hc⟩:=RU.mp (vM y q')
     refine .inr ⟨.inl q',c,hc,?_⟩
     have:=x.cell y c hc
     rwa [oG (by rw [q'];exact fun z=>nomatch z) _ _ (by rw [hz];exact EB) h2] at this
   ·cases q:lk (names.zip (ds.map En.val)) bh with
    | none=>rfl
    | some e =>
     have:=lU q
     rw [fC _ _ (by rw [Qu];exact hl.symm)] at this
     exact absurd rfl (xj _ this).2
  obtain ⟨outer,hA,_⟩:=F.da
  have I:mX (A.deeper env) (bB env []):=⟨⟨outer,(dZ hA e2).1⟩,e2,rfl,fun p h=>nomatch h⟩
  have Ja:∀ {g' o' ρ' b' s'},FR X.B X.V (A.deeper env) (bB env []) g' o' ρ' b' s'→Step X.V (A.deeper env) (bB env []) g oN ah g' o' s'→eW X.V A g s g' b' s':=fun F' S' =>
   ef.plain (let P:=ef.qz F x e2 F' S';⟨P.kept.weaken (fun a o _ h=>h.imp id fun ⟨y,q⟩=>nomatch q) (fun a o _ h=>.inl h),P.iW,P.gens,P.os,P.gm,fun a h h'=>(P.gn a h h').imp (fun ⟨y,q⟩=>nomatch q) id,P.bf,P.view⟩)
  refine h (A.deeper env) (bB env []) g oN ah _ _ R.deeper e1 I aA ?_
  cases r with
  | next ρ' b'=>exact fun g' o' s' F' S'=>k .none g' s' (Ja F' S') .none
  | ret d ρ' b'=>exact fun v g' o' s' F' S' rv=>k v g' s' (Ja F' S') rv
  | exc b' =>
   refine fun xv s' P=>mI F x e2 aA P fun dG g' e base a0 e6 C fl lF=>?_
   refine k xv dG ⟨g',e,base,a0,e6,ef.plain ⟨C.kept.weaken (fun a o _ h=>h.imp id fun ⟨y,q⟩=>nomatch q) (fun a o _ h=>.inl h),C.iW,C.gens,C.os,C.gm,fun a h h'=>(C.gn a h h').imp (fun ⟨y,q⟩=>nomatch q) id,C.bf,C.view⟩,fl,lF⟩
noncomputable def ll (o:Qy→List Qt) (as:List Qt):Qy→List Qt:=fun y=>if y=bh then as++o bh else o y
section
variable {B:QL}{V:VI}{A:QE}{f:FD}{g g' gF:GM}{o o' rl:Qy→List Qt}{ρ:Rw}{b b':Array UInt8}{s s' dG:Qs}
theorem FR.tD {h':QL}{tk:Nat}{dr:S6}(F:FR B V A f g o ρ b s) (k:∀ a ob,s.heap.get? a=some ob→h'.get? a=some ob) (as:List Qt) (hn:∀ a∈as,s.heap.get? a=none) (hl:∀ a∈as,∃ ob,h'.get? a=some ob) :
  FR B V A f g (ll o as) ρ b ⟨h',s.gens,dr,tk,s.os⟩∧bK V A f g o s g (ll o as) ⟨h',s.gens,dr,tk,s.os⟩:=by
 obtain ⟨F',S'⟩:=F.keeps (tk:=tk) (dr:=dr) k
 have mem:∀ y a,a∈ll o as y→a∈as∨a∈o y:=fun y a h=>by
  unfold ll at h
  split at h
  ·rename_i q;subst q
   rcases i9 h with h|h
   ·exact .inl h
   ·exact .inr h
  ·exact .inr h
 have md:∀ a,Mod V f (ll o as) a→a∈as∨Mod V f o a:=fun a h=>by
  rcases h with h|h|⟨z,h⟩
  ·exact .inr (.inl h)
  ·exact .inr (.inr (.inl h))
  ·rcases mem z a h with h|h
   ·exact .inl h
   ·exact .inr (.inr (.inr ⟨z,h⟩))
 have bn:∀ a∈as,B.get? a=none:=fun a h=>by
  cases q:B.get? a with
  | none=>rfl
  | some ob=>have:=F.bC a ob q;exact dP (hn a h) this
 have mw:∀ a∈as,∀ ob,s.heap.get? a=some ob→False:=fun a h ob q=>by exact dP (hn a h) q
 refine ⟨{ F' with f9:=fun a h=>?_,mB:=fun a h=>?_,live:=fun a h=>?_,dY:=fun y a h=>?_,cX:=fun y z q a h h'=>?_,ic:=fun y a h=>?_,vars:=fun y e h=>?_,cells:=fun y c h=>?_ },⟨⟨.of_keeps k,S'.iW,S'.gm,S'.gn,fun y a h=>?_,rfl⟩,fun a h=>⟨?_,fun ob q=>k a ob q⟩,S'.vk⟩⟩
 ·rcases md a h with h|h
  ·exact F.qR (hn a h)
  ·exact F.f9 a h
 ·rcases md a h with h|h
  ·exact bn a h
  ·exact F.mB a h
 ·rcases md a h with h|h
  ·exact hl a h
  ·exact F'.live a h
 ·rcases mem y a h with h|h
  ·refine ⟨fun q=>?_,fun q=>?_⟩
   ·obtain ⟨ob,q⟩:=F.live a (.inl q);exact mw a h ob q
   ·obtain ⟨ob,q⟩:=V.lfp _ _ F.view a q;exact mw a h ob q
  ·exact F.dY y a h
 ·rcases mem y a h with hy|hy<;>rcases mem z a h' with hz|hz
  ·unfold ll at h h'
   by_cases q1:y=bh
   ·by_cases q2:z=bh
    ·exact q (q1.trans q2.symm)
    ·rw [if_neg q2] at h'
     obtain ⟨ob,q⟩:=F.live a (.inr (.inr ⟨z,h'⟩));exact mw a hy ob q
   ·rw [if_neg q1] at h
    obtain ⟨ob,q⟩:=F.live a (.inr (.inr ⟨y,h⟩));exact mw a hy ob q
  ·obtain ⟨ob,q⟩:=F.live a (.inr (.inr ⟨z,hz⟩));exact mw a hy ob q
  ·obtain ⟨ob,q⟩:=F.live a (.inr (.inr ⟨y,hy⟩));exact mw a hz ob q
  ·exact F.cX y z q a hy hz
 ·rcases mem y a h with h|h
  ·intro q;obtain ⟨ob,q⟩:=F.da.live q;exact mw a h ob q
  ·exact F.ic y a h
 ·have xd:y≠bh:=fQ F.eC h
  have:ll o as y=o y:=if_neg xd
  rw [this]
  exact F'.vars y e h
 ·obtain ⟨c1,c2,c3,c4,c5,c6⟩:=F'.cells y c h
  refine ⟨c1,c2,c3,c4,fun z hz=>?_,c6⟩
  rcases mem z c hz with hz|hz
  ·obtain ⟨_,⟨v,ob,q,_⟩,_⟩:=F.cells y c h
   exact mw c hz ob q
  ·exact c5 z hz
 ·rcases mem y a h with h|h
  ·exact .inr (hn a h)
  ·exact .inl ⟨y,h⟩
 ·exact QZ _ h
theorem FR.uv {x:Qy}{ds:List D}(F:FR B V A f g o ρ b s) (hx:lk ρ x=some (.own ds)) :
  ∃ a g' o' vs n,cI s.heap f.env x (.ref a)∧FR B V A f g' o' (aS ρ x (.val (.list ds))) b s∧bK V A f g o s g' o' s∧Rep g' V.obj (.ref a) (.list ds)∧s.heap.get? a=some (listOf vs n):=by
 obtain ⟨v,h1,h2⟩:=F.vars x _ hx
 obtain ⟨a,vs,n,rfl,h3,h4,h5⟩:=h2
 have Dj:a∈o x:=by rw [h3];exact QO.mpr rfl
 have m9:x≠bh:=fQ F.eC hx
 have O2:g a=none:=F.f9 a (.inr (.inr ⟨x,Dj⟩))
 have iu:=GM.iR (g:=g) (a:=a) (ob:=listOf vs.toArray n) (.inl O2)
 have lD:∀ c,c≠a→GM.add g a (listOf vs.toArray n) c=g c:=fun c hc=>if_neg hc
 let o':Qy→List Qt:=fun y=>if y=x then [] else o y
 have mo:∀ y c,c∈o' y→c∈o y∧c≠a:=fun y c h=>by
  show c∈o y∧c≠a
  by_cases q:y=x
  ·subst q;rw [show o' y=[] from if_pos rfl] at h;cases h
  ·rw [show o' y=o y from if_neg q] at h
   exact ⟨h,fun z=>F.cX y x q c h (z▸Dj)⟩
 have md:∀ c,Mod V f o' c→Mod V f o c∧c≠a:=fun c h=>by
  rcases h with h|h|⟨z,h⟩
  ·exact ⟨.inl h,fun z=>(F.dY x a Dj).1 (z▸h)⟩
  ·exact ⟨.inr (.inl h),fun z=>(F.dY x a Dj).2 (V.sub _ (z▸h))⟩
  ·exact ⟨.inr (.inr ⟨z,(mo z c h).1⟩),(mo z c h).2⟩
 have xg:Rep (GM.add g a (listOf vs.toArray n)) V.obj (.ref a) (.list ds):=.list GM.b7 rfl rfl (h5.mono iu)
 refine ⟨a,GM.add g a (listOf vs.toArray n),o',vs.toArray,n,h1,{ F with bf:=fun c ob q=>?_,lE:=fun c h=>?_,f9:=fun c h=>?_,mB:=fun c h=>F.mB c (md c h).1,live:=fun c h=>F.live c (md c h).1,dY:=fun y c h=>F.dY y c (mo y c h).1,cX:=fun y z q c h h'=>F.cX y z q c (mo y c h).1 (mo z c h').1,ic:=fun y c h=>F.ic y c (mo y c h).1,vars:=fun y e h=>?_,cells:=fun y c h=>?_,eC:=?_ },⟨⟨.refl _ _ _,fun _ _ e=>⟨_,e⟩,iu,fun c q q'=>?_,fun y c h=>.inl ⟨y,(mo y c h).1⟩,rfl⟩,fun c h=>⟨?_,fun ob q=>q⟩,fun _ _ h=>h⟩,xg,h4⟩
 ·by_cases e:c=a
  ·subst e;cases ig GM.b7 q;exact h4
  ·rw [lD c e] at q;exact F.bf c ob q
 ·rw [lD c fun z=>F.ic x a Dj (z▸h)];exact F.lE c h
 ·rw [lD c (md c h).2];exact F.f9 c (md c h).1
 ·rw [bx] at h
  by_cases e':y=x
  ·subst e'
   cases ig (if_pos rfl) h
   exact ⟨_,h1,xg⟩
  ·rw [if_neg e'] at h
   obtain ⟨u,k1,k2⟩:=F.vars y e h
   refine ⟨u,k1,?_⟩
   rw [show o' y=o y from if_neg e']
   exact k2.mono iu fun _ _ _ q=>q
 ·obtain ⟨c1,c2,c3,c4,c5,c6⟩:=F.cells y c h
  exact ⟨c1,c2,c3,c4,fun z hz=>c5 z (mo z c hz).1,c6⟩
 ·rw [bx,if_neg (Ne.symm m9)];exact F.eC
 ·by_cases e:c=a
  ·subst e;exact .inl ⟨x,Dj⟩
  ·rw [lD c e] at q';exact absurd q q'
 ·show c∈o' bh
  rw [show o' bh=o bh from if_neg (Ne.symm m9)];exact h
end
noncomputable def SF (X:Cx) (n:Nat) (sc:QM) (e:QR) (ρ:Rw) (b:Array UInt8) (en:En) (ρ':Rw) (b':Array UInt8):Prop :=
 ∀ (A:QE) (f:FD) (g:GM) (o:Qy→List Qt) (s:Qs) (Q:Qr→Qs→Prop) (E:Qr→Qs→Prop),cG A n→f.env.scope=sc→FR X.B X.V A f g o ρ b s →
  (∀ v g' o' s' os,FR X.B X.V A f g' o' ρ' b' s'→bK X.V A f g o s g' o' s'→(∀ a∈os,a∈o' bh∧s.heap.get? a=none)→lz g' X.V.obj s'.heap os v en→Q v s')→QF (QJ X.prog X.w) A (eval e f.env) Q E s
structure It where
 v:Qr
 e:En
 os:List Qt
noncomputable def rk (g:GM) (vw:Nat→Option Qt) (h:QL) (tD:List Qt) (eX:List It):Prop :=
 (∀ i∈eX,(∀ a∈i.os,a∈tD)∧lz g vw h i.os i.v i.e)∧eX.Pairwise (fun i j=>∀ a∈i.os,a∉j.os)
noncomputable def i4 (X:Cx) (n:Nat) (sc:QM) (es:List QR) (ρ:Rw) (b:Array UInt8) (vV:List En) (ρ':Rw) (b':Array UInt8):Prop :=
 ∀ (pos:Rd) (A:QE) (f:FD) (g:GM) (o:Qy→List Qt) (s:Qs) (Q:List Qr→Qs→Prop) (E:Qr→Qs→Prop),cG A n→f.env.scope=sc→FR X.B X.V A f g o ρ b s →
  (∀ eX g' o' s',FR X.B X.V A f g' o' ρ' b' s'→bK X.V A f g o s g' o' s'→eX.map (·.e)=vV→rk g' X.V.obj s'.heap (o' bh) eX→(∀ i∈eX,∀ a∈i.os,s.heap.get? a=none)→Q (eX.map (·.v)) s') →
   QF (QJ X.prog X.w) A (spliced (backTo pos (QS es f.env))) Q E s
section
variable {X:Cx}{n:Nat}{sc:QM}{ρ af ay cN:Rw}{b ao b₂ eb:Array UInt8}{r:Fl}
theorem SE.tup {elts:List QR}{k:Nat}{pos:Rd}{ds:List D}(h:rh X n sc elts ρ b ds af ao) (hz:autoParam (ds.length≤1000) FY):SE X n sc (.Tuple elts k pos) ρ b (.tup ds) af ao:=fun A f g o s Q E R hs F q =>
 UG (h pos A f g o s _ E R hs F fun vs aE aN ah aA aP aW=>⟨by rw [aW.length];exact Qx hz av,by
  have hk:=fun a ob (e:ah.heap.get? a=some ob)=>Qz { cls:=.type "tuple",data:=.seq vs.toArray } e
  obtain ⟨aM,aO⟩:=aA.fresh (tk:=ah.toks) (dr:=ah.drawn) hk (get_none (QV _)) (QN ah.heap rfl)
  exact q _ _ _ _ aM (aP.trans aO) (.tup GM.b7 rfl rfl (aW.mono aO.gm))⟩)
theorem dk {elts:List QR}{pos:Rd}{ds:List D}(h:rh X n sc elts ρ b ds af ao) (hz:autoParam (ds.length≤1000) FY):SE X n sc (.List elts pos) ρ b (.list ds) af ao:=fun A f g o s Q E R hs F q =>
 Ug (h pos A f g o s _ E R hs F fun vs aE aN ah aA aP aW=>⟨by rw [aW.length];exact Qx hz av,by
  have hk:=fun a ob (e:ah.heap.get? a=some ob)=>Qz { cls:=.type "list",data:=.seq vs.toArray } e
  obtain ⟨aM,aO⟩:=aA.fresh (tk:=ah.toks) (dr:=ah.drawn) hk (get_none (QV _)) (QN ah.heap rfl)
  exact q _ _ _ _ aM (aP.trans aO) (.list GM.b7 rfl rfl (aW.mono aO.gm))⟩)
theorem SE.my {x:Qy}{pos:Rd}{ds:List D}(hx:lk ρ x=some (.own ds)) (hn:autoParam (okN x=true) bG):SE X n sc (.Name x pos) ρ b (.list ds) (aS ρ x (.val (.list ds))) b:=fun A f g o s Q E R hs F q=>by
 obtain ⟨a,g',o',vs,m,h1,F',S',r',_⟩:=F.uv hx
 exact Rb (aV F.kind h1 (okN.d hn).2 (q _ g' o' s F' S' r')) (okN.d hn).1
theorem SF.ip {e:QR}{d:D}(h:SE X n sc e ρ b d af ao):SF X n sc e ρ b (.val d) af ao:=fun A f g o s Q E R hs F q =>
 h A f g o s Q E R hs F fun v g' o' s' F' S' r'=>q v g' o' s' [] F' S' (fun a h=>(nomatch h)) r'
theorem SF.lst {elts:List QR}{pos:Rd}{ds:List D}(h:rh X n sc elts ρ b ds af ao) (hz:autoParam (ds.length≤1000) FY):SF X n sc (.List elts pos) ρ b (.own ds) af ao:=fun A f g o s Q E R hs F q =>
 Ug (h pos A f g o s _ E R hs F fun vs aE aN ah aA aP aW=>⟨by rw [aW.length];exact Qx hz av,by
  have hk:=fun a ob (e:ah.heap.get? a=some ob)=>Qz { cls:=.type "list",data:=.seq vs.toArray } e
  have cy:=QN (o:={ cls:=.type "list",data:=.seq vs.toArray }) ah.heap rfl
  obtain ⟨aM,aO⟩:=aA.tD (tk:=ah.toks) (dr:=ah.drawn) hk [ah.heap.objs.size] (fun a ha=>by cases bq ha;exact get_none (QV _)) (fun a ha=>by cases bq ha;exact ⟨_,cy⟩)
  refine q _ _ _ _ [ah.heap.objs.size] aM (aP.trans aO) (fun a ha=>⟨?_,?_⟩) ⟨_,vs,0,rfl,rfl,cy,aW⟩
  ·cases bq ha
   show _∈(if bh=bh then [ah.heap.objs.size]++aN bh else _)
   rw [if_pos rfl];exact QB
  ·cases bq ha
   cases e:s.heap.get? ah.heap.objs.size with
   | none=>rfl
   | some ob =>
    obtain ⟨b0,e'⟩:=aP.iW _ _ e
    exact absurd (Rt e') (TH _)⟩)
theorem i4.nil:i4 X n sc [] ρ b [] ρ b:=fun pos A f g o s Q E R hs F h=>Tu (h [] g o s F .refl rfl ⟨fun i h=>(nomatch h),.nil⟩ fun i h=>(nomatch h))
theorem i4.cons {e:QR}{es:List QR}{en:En}{vV:List En}(h1:SF X n sc e ρ b en af ao) (h2:i4 X n sc es af ao vV ay b₂) (cv:autoParam (∀ env,QS (e::es) env=(false,eval e env)::QS es env) cw) :
  i4 X n sc (e::es) ρ b (en::vV) ay b₂:=fun pos A f g o s Q E R hs F h=>by
 rw [cv]
 refine S2 (h1 A f g o s _ E R hs F fun v aE aN ah os aA aP k₁ aW=>h2 pos A f aE aN ah _ E R hs aA fun eX bl cx bk aM aO k₂ bt Hk=>?_)
 refine h (⟨v,en,os⟩::eX) bl cx bk aM (aP.trans aO) (by rw [QT,k₂]) ⟨fun i hi=>?_,TC.mpr ⟨fun j hj a ha h'=>?_,bt.2⟩⟩ fun i hi a ha=>?_
 ·rcases bS hi with rfl|hi
  ·exact ⟨fun a ha=>(aO.tk a (k₁ a ha).1).1,aW.mono aO.gm fun a ha ob e=>(aO.tk a (k₁ a ha).1).2 ob e⟩
  ·exact bt.1 i hi
 ·obtain ⟨ob,e⟩:=aA.live a (.inr (.inr ⟨_,(k₁ a ha).1⟩))
  exact dP (Hk j hj a h') e
 ·rcases bS hi with rfl|hi
  ·exact (k₁ a ha).2
  ·have:=Hk i hi a ha
   cases e:s.heap.get? a with
   | none=>rfl
   | some ob =>
    obtain ⟨b0,e'⟩:=aP.iW _ _ e
    exact dP this e'
noncomputable def stores (ρ:Rw) (ps:List (Qy×En)):Rw:=match ps with
 | []=>ρ
 | (x,e)::r=>stores (aS ρ x e) r
inductive Stores (M:To) (A:QE) (env:TU):List (Qr→Sem Unit)→List Qy→Prop
 | nil:Stores M A env [] []
 | cons {t:Qr→Sem Unit}{ts:List (Qr→Sem Unit)} {x:Qy}{xs:List Qy}:(∀ v s (Q:Unit→Qs→Prop) E,QF M A (storeName env x v) Q E s→QF M A (t v) Q E s)→Stores M A env ts xs→Stores M A env (t::ts) (x::xs)
theorem fP {M:To}{A:QE}{f:FD}{g:GM}{E:Qr→Qs→Prop}{Q:Unit→Qs→Prop}(aY:f.env.scope=sc) {ts:List (Qr→Sem Unit)} {xs:List Qy}(hS:Stores M A f.env ts xs) :
  ∀ (eX:List It) (o:Qy→List Qt) (ρ:Rw) (s:Qs),eX.length=xs.length→(∀ x∈xs,wc f sc x)→FR X.B X.V A f g o ρ b s→rk g X.V.obj s.heap (o bh) eX →
   (∀ o' s',FR X.B X.V A f g o' (stores ρ (xs.zip (eX.map (·.e)))) b s'→Step X.V A f g o s g o' s'→Q () s')→QF M A (assignInOrder ts (eX.map (·.v))) Q E s:=by
 induction hS with
 | nil =>
  intro eX o ρ s hl _ F _ h
  obtain rfl:eX=[]:=List.eq_nil_of_length_eq_zero hl
  exact wpAny_assignInOrder_none (h o s F .refl)
 | cons ht _ ih =>
  intro eX o ρ s hl hx F hT h
  match eX,hl with
  | i::eX,hl =>
   refine wpAny_assignInOrder_more (ht _ _ _ _ ?_)
   obtain ⟨Lu,O5⟩:=hT
   obtain ⟨Ou,Ot⟩:=TC.mp O5
   refine FR.lM (e:=i.e) (os:=i.os) F aY (hx _ QB) (fun a ha=>.inl ((Lu i QB).1 a ha)) (Lu i QB).2 fun g' o' s' F' S' ⟨e1,e2,k⟩=>?_
   subst e1;subst e2
   refine ih eX _ _ s' (by simpa using hl) (fun y hy=>hx y (QD _ hy)) F' ⟨fun j hj=>?_,Ot⟩ fun rl dG th xB=>h rl dG th (S'.trans xB)
   obtain ⟨j1,j2⟩:=Lu j (QD _ hj)
   refine ⟨fun a ha=>?_,j2.mono (fun _ _ q=>q) fun a ha ob q=>k a ob (F.dY _ a (j1 a ha)).1 q⟩
   have m9:=(stN.d (hx _ QB).1).2.1
   unfold wY
   rw [if_neg (Ne.symm m9),if_pos rfl]
   refine Sx.mpr ⟨j1 a ha,?_⟩
   simp only [S0,List.contains_eq_mem,decide_eq_false_iff_not]
   exact fun q=>Ou j hj a q ha
inductive BK:List QR→List Qy→Prop
 | nil:BK [] []
 | cons {x:Qy}{p:Rd}{es:List QR}{xs:List Qy}:BK es xs→BK (.Name x p::es) (x::xs)
theorem BK.each {es:List QR}{xs:List Qy}(h:BK es xs) {M:To}{A:QE}{env:TU}:Stores M A env ((assignEach es env).map (·.2)) xs∧(assignEach es env).length=xs.length∧(assignEach es env).findIdx? (·.1)=none:=by
 induction h with
 | nil=>exact ⟨.nil,rfl,rfl⟩
 | @cons x p es xs _ ih =>
  obtain ⟨i1,i2,i3⟩:=ih
  have e:assignEach (.Name x p::es) env=(false,assign (.Name x p) env)::assignEach es env:=rfl
  rw [e]
  refine ⟨.cons (fun v s Q E h=>PySem.wpAny_assign_Name h) i1,by simp [i2],?_⟩
  rw [List.findIdx?_cons,i3];rfl
theorem tF {M:To}{A:QE}{env:TU}:∀ xs:List Qy,Stores M A env (xs.map fun n=>bindName env n) xs:=by
 intro xs
 induction xs with
 | nil =>
  exact .nil
 | cons x xs bA =>
  exact .cons (fun v s Q E h=>wpAny_bindName h) (bA)
theorem rk.mono {g g':GM}{vw:Nat→Option Qt}{h h':QL}{tD FV:List Qt}{eX:List It}(x:rk g vw h tD eX) (gm:∀ a ob,g a=some ob→g' a=some ob) (k:∀ a∈tD,∀ ob,h.get? a=some ob→h'.get? a=some ob) (kt:∀ a∈tD,a∈FV):rk g' vw h' FV eX :=
 ⟨fun i hi=>⟨fun a ha=>kt a ((x.1 i hi).1 a ha),(x.1 i hi).2.mono gm fun a ha ob e=>k a ((x.1 i hi).1 a ha) ob e⟩,x.2⟩
theorem rk.rev {g:GM}{vw:Nat→Option Qt}{h:QL}{tD:List Qt}{eX:List It}(x:rk g vw h tD eX):rk g vw h tD eX.reverse :=
 ⟨fun i hi=>x.1 i (List.mem_reverse.mp hi),List.pairwise_reverse.mpr (x.2.imp fun h a ha hb=>h a hb ha)⟩
theorem S1.gP {es vs:List QR}{k k':Nat}{nz tq pos:Rd}{xs:List Qy}{vV:List En}(hv:i4 X n sc vs ρ b vV af ao) (hl:vV.length=xs.length) (Ar:∀ x∈xs,stN sc x=true)
  (hw:∀ env:TU,env.scope=sc→swappedStores [.Tuple es k nz] (.Tuple vs k' tq) env=pure (some xs)) (hz:autoParam (vV.length≤1000) FY) :
  S1 X n sc (.Assign [.Tuple es k nz] (.Tuple vs k' tq) pos) ρ b (.next (stores af (xs.reverse.zip vV.reverse)) ao):=fun A f g o s Q E R aY I F q=>by
 refine Assign_Tuple_swapped (UG (hv tq A f g o s _ E R aY F fun eX aE aN ah aA aP jd E4 _=>⟨?_,?_⟩)) rfl (hw _ aY)
 ·rw [Qu,← Qu (as:=eX) (f:=(·.e)),jd];exact Qx hz av
 ·have hlen:eX.length=xs.length:=by rw [← hl,← jd,Qu]
  have hk:=fun a ob (e:ah.heap.get? a=some ob)=>Qz { cls:=.type "tuple",data:=.seq (eX.map (·.v)).toArray } e
  obtain ⟨aM,aO⟩:=aA.keeps (tk:=ah.toks) (dr:=ah.drawn) hk
  have hsz:(eX.map (·.v)).toArray.size=xs.length:=by simp [hlen]
  refine hsz▸wpAny_unpackItems_tuple R.1 ⟨_,QN ah.heap rfl,rfl,0,rfl⟩ fun h' he=>?_
  have j0:∀ a ob,(ah.heap.push { cls:=.type "tuple",data:=.seq (eX.map (·.v)).toArray }).get? a=some ob→h'.get? a=some ob:=fun a ob e=>he a ob (RO (Rt e)) e
  obtain ⟨cA,cO⟩:=aM.keeps (tk:=ah.toks) (dr:=ah.drawn) j0
  rw [show (eX.map (·.v)).toArray.toList.reverse=eX.reverse.map (·.v) by simp]
  refine fP aY (tF xs.reverse) eX.reverse aN af _ (by simp [hlen]) (fun x hx=>I.EV (Ar x (List.mem_reverse.mp hx))) cA (E4.mono (fun _ _ q=>q) (fun a _ ob e=>j0 _ _ (hk _ _ e)) fun _ h=>h).rev fun o' s' F' S'=>?_
  rw [List.map_reverse,jd] at F'
  exact q _ _ _ F' ((aP.toStep.trans (aO.trans cO).toStep).trans S')
theorem S1.AL {es vs:List QR}{k k':Nat}{nz tq pos:Rd}{xs:List Qy}{vV:List En}(hv:i4 X n sc vs ρ b vV af ao) (hN:BK es xs) (hl:vV.length=xs.length) (Ar:∀ x∈xs,stN sc x=true)
  (hw:∀ env:TU,env.scope=sc→swappedStores [.Tuple es k nz] (.Tuple vs k' tq) env=pure none) (hz:autoParam (vV.length≤1000) FY) :
  S1 X n sc (.Assign [.Tuple es k nz] (.Tuple vs k' tq) pos) ρ b (.next (stores af (xs.zip vV)) ao):=fun A f g o s Q E R aY I F q=>by
 refine Vb (UG (hv tq A f g o s _ E R aY F fun eX aE aN ah aA aP jd E4 _=>⟨?_,?_⟩)) rfl (hw _ aY)
 ·rw [Qu,← Qu (as:=eX) (f:=(·.e)),jd];exact Qx hz av
 ·have hlen:eX.length=xs.length:=by rw [← hl,← jd,Qu]
  have hk:=fun a ob (e:ah.heap.get? a=some ob)=>Qz { cls:=.type "tuple",data:=.seq (eX.map (·.v)).toArray } e
  obtain ⟨aM,aO⟩:=aA.keeps (tk:=ah.toks) (dr:=ah.drawn) hk
  have hE:=hN.each (M:=QJ X.prog X.w) (A:=A) (env:=f.env)
  refine Uh (items:=(eX.map (·.v)).toArray) R.1 ⟨_,QN ah.heap rfl,rfl,0,rfl⟩ (by rw [hE.2.1];simp [hlen]) hE.2.2 fun h' he=>?_
  have j0:∀ a ob,(ah.heap.push { cls:=.type "tuple",data:=.seq (eX.map (·.v)).toArray }).get? a=some ob→h'.get? a=some ob:=fun a ob e=>he a ob (RO (Rt e)) e
  obtain ⟨cA,cO⟩:=aM.keeps (tk:=ah.toks) (dr:=ah.drawn) j0
  show QF _ A (assignInOrder _ (eX.map (·.v))) _ E _
  refine fP aY hE.1 eX aN af _ hlen (fun x hx=>I.EV (Ar x hx)) cA (E4.mono (fun _ _ q=>q) (fun a _ ob e=>j0 _ _ (hk _ _ e)) fun _ h=>h) fun o' s' F' S'=>?_
  rw [jd] at F'
  exact q _ _ _ F' ((aP.toStep.trans (aO.trans cO).toStep).trans S')
theorem aB.eX {g:GM}{vw:Nat→Option Qt}{h:QL}{tD:List Qt}{vs:List Qr}{ds:List D}(x:aB g vw vs ds):∃ eX:List It,eX.map (·.v)=vs∧eX.map (·.e)=ds.map En.val∧rk g vw h tD eX:=by
 induction vs generalizing ds with
 | nil=>cases x;exact ⟨[],rfl,rfl,fun i h=>(nomatch h),.nil⟩
 | cons v vs ih =>
  cases x with
  | @cons _ _ d ds r1 r2 =>
   obtain ⟨eX,h1,h2,h3,h4⟩:=ih r2
   refine ⟨⟨v,.val d,[]⟩::eX,by simp [h1],by simp [h2],fun i hi=>?_,TC.mpr ⟨fun j _ a ha=>(nomatch ha),h4⟩⟩
   rcases bS hi with rfl|hi
   ·exact ⟨fun a ha=>(nomatch ha),r1⟩
   ·exact h3 i hi
theorem iU {A:QE}{f:FD}{g:GM}{o:Qy→List Qt}{s:Qs}{E:Qr→Qs→Prop}{Q:Unit→Qs→Prop}{es:List QR}{k:Nat}{nz:Rd}{xs:List Qy}{ds:List D}{v:Qr}(hh:A.handled=none) (aY:f.env.scope=sc) (F:FR X.B X.V A f g o ρ b s) (hv:Rep g X.V.obj v (.tup ds)) (hN:BK es xs) (hl:ds.length=xs.length) (Ar:∀ x∈xs,wc f sc x)
  (q:∀ o' s',FR X.B X.V A f g o' (stores ρ (xs.zip (ds.map En.val))) b s'→Step X.V A f g o s g o' s'→Q () s'):QF (QJ X.prog X.w) A (assign (.Tuple es k nz) f.env v) Q E s:=by
 obtain ⟨a,ob,vs,m,rfl,h1,h2,h3,r⟩:=hv.uZ
 have hE:=hN.each (M:=QJ X.prog X.w) (A:=A) (env:=f.env)
 have td:vs.length=xs.length:=r.length.trans hl
 refine Uh (items:=vs.toArray) hh ⟨_,F.bf _ _ h1,h2,m,h3⟩ (by rw [hE.2.1];simp [td]) hE.2.2 fun h' he=>?_
 obtain ⟨cA,cO⟩:=F.keeps (h':=h') (tk:=s.toks) (dr:=s.drawn) fun a ob e=>he a ob (RO (Rt e)) e
 obtain ⟨eX,i1,i2,i3⟩:=r.eX (h:=h') (tD:=o bh)
 show QF _ A (assignInOrder _ vs) _ E _
 rw [← i1]
 refine fP aY hE.1 eX o ρ _ (by rw [← Qu (as:=eX) (f:=(·.v)),i1];exact td) Ar cA i3 fun o' s' F' S'=>?_
 rw [i2] at F'
 exact q _ _ F' (cO.toStep.trans S')
theorem S1.jR {es:List QR}{value:QR}{k:Nat}{nz pos:Rd}{xs:List Qy}{ds:List D}(hv:SE X n sc value ρ b (.tup ds) af ao) (hN:BK es xs) (hl:ds.length=xs.length) (Ar:∀ x∈xs,stN sc x=true)
  (hw:autoParam (∀ env:TU,swappedStores [.Tuple es k nz] value env=pure none) cw) (hs:autoParam (∀ env,swapsWithSole [.Tuple es k nz] value pos.line env=pure false) cw) :
  S1 X n sc (.Assign [.Tuple es k nz] value pos) ρ b (.next (stores af (xs.zip (ds.map En.val))) ao):=fun A f g o s Q E R aY I F q =>
 Vb (hv A f g o s _ E R aY F fun v aE aN ah aA aP aW=>iU R.1 aY aA aW hN hl (fun x hx=>I.EV (Ar x hx)) fun o' s' F' S'=>q _ _ _ F' (aP.toStep.trans S')) (hs _) (hw _)
end
section
variable {X:Cx}{A:QE}{f:FD}{g aE:GM}{o aN:Qy→List Qt}{ρ af:Rw}{b ao:Array UInt8}{s ah s':Qs}{x:Qr}
noncomputable def Traced (x:Qr) (h:QL) (L:Qt):Prop:=∃ e base a0,x=.ref e∧h.TracedAtW base e (.ref 51) a0 (RM L)
theorem XP.z5 {M:To}{E:Qr→Qs→Prop}(I:mX A f) (ly:FR X.B X.V A f g o ρ ao s) (P:XP X A f g o s b x s') (hT:Traced x s'.heap f.env.locals)
  (h:∀ dG,XP X A f g o s b x dG→E x dG):cameBackBy M A f.env E x s':=by
 obtain ⟨g',e,base,a0,rfl,F,S,Y⟩:=P
 obtain ⟨⟨outer,n8⟩,hf,Fz,Jo⟩:=I
 obtain ⟨e',v5,JJ,qO,hT⟩:=hT
 cases qO
 obtain ⟨fl,hX⟩:=Y.st.xZ hT
 obtain ⟨oe,vs,T,oT,ts,he,Ln,OX,hd,h1,MX,Ih,hT,Ju,h3⟩:=FL.of hX
 have xf:3<ts.size:=(Array.getElem?_eq_some_iff.mp h3).1
 have other:∀ c,c≠T→(s'.heap.update T (R3.mapFields (·.setIfInBounds 3 ((some f.env.locals:Option Qt).elim Qr.none fun f=>RM f)))).get? c=s'.heap.get? c :=
  fun c hc=>Sf _ _ (Ne.symm hc)
 have rS:∀ c o,s'.heap.get? c=some o→(∀ vs,o.data≠.fields vs)→c≠T:=fun c o hb Ow q=>by
  rw [q,hT] at hb;injection hb with hb;subst hb;exact Ow ts Ju
 unfold cameBackBy
 refine Qq (RL he hd h1 ?_)
 rw [if_neg (show ¬ ((Qr.ref T==Qr.none)=true) from Bool.false_ne_true)]
 rw [hf]
 unfold setFlight
 refine Qq (RL he hd h1 ?_)
 rw [if_pos (show (Qr.ref T != Qr.none)=true from rfl)]
 refine Rp hT Ju xf (h _ (XP.moved ly F S Y (fun c ob q=>(other c fun z=>by rw [z,MX] at q;cases q).trans (Y.stays c ob q)) (fun l hl=>?_) (.inr (.inr ?_)) fun c ob q hn=>⟨ob.slots,(other c (rS c ob q hn)).trans q⟩))
 ·exact (Y.frames l hl).of_keeps fun c ob q hn=>⟨ob,(other c (rS c ob q hn)).trans q,rfl⟩
 ·exact ⟨oe,vs,T,_,_,(other e (Ne.symm Ih)).trans he,⟨Ln,OX⟩,hd,h1,MX,Ih,Rh _ hT (R3.isFreed_of_fields (R3.data_mapFields Ju _)),R3.data_mapFields Ju _,Array.getElem?_setIfInBounds_self_of_lt xf⟩
theorem XP.vB {M:To}{E:Qr→Qs→Prop}(I:mX A f) (ly:FR X.B X.V A f g o ρ ao s) (P:XP X A f g o s b x s') (h:∀ dG,XP X A f g o s b x dG→E x dG) :
  notedBy M A f.env (fun e s'=>cameBackBy M A f.env E e s') x s' :=
 P.C7 I ly fun dG P' hT=>P'.z5 I ly hT h
end
structure dh (B:QL) (V:VI) (A:QE) (f:FD) (g:GM) (o:Qy→List Qt) (a:Qt):Prop where
 b:B.get? a=none
 g:g a=none
 fr:a∉fL A
 fp:a∉V.fp
 fx:a∉f.fx
 o:∀ x,a∉o x
 c:∀ x c,f.env.cells.lookup x=some c→c≠a
section
variable {B:QL}{V:VI}{A:QE}{f:FD}{g g' gF:GM}{o o' rl:Qy→List Qt}{ρ:Rw}{b b':Array UInt8}{s s' dG:Qs}{a:Qt}
theorem dh.fresh (F:FR B V A f g o ρ b s) (h:s.heap.get? a=none):dh B V A f g o a:=by
 have nl:∀ ob,s.heap.get? a=some ob→False:=fun ob q=>by exact dP h q
 refine ⟨?_,F.qR h,fun q=>?_,fun q=>?_,fun q=>?_,fun x q=>?_,fun x c hc q=>?_⟩
 ·cases q:B.get? a with
  | none=>rfl
  | some ob=>exact (nl ob (F.bC a ob q)).elim
 ·obtain ⟨ob,q⟩:=F.da.live q;exact nl ob q
 ·obtain ⟨ob,q⟩:=V.lfp _ _ F.view a q;exact nl ob q
 ·obtain ⟨ob,q⟩:=F.live a (.inl q);exact nl ob q
 ·obtain ⟨ob,q⟩:=F.live a (.inr (.inr ⟨x,q⟩));exact nl ob q
 ·subst q;obtain ⟨_,⟨v,ob,q,_⟩,_⟩:=F.cells x c hc;exact nl ob q
theorem dh.qA (U:dh B V A f g o a):¬ Mod V f o a:=fun h=>by
 rcases h with h|h|⟨z,h⟩
 ·exact U.fx h
 ·exact U.fp (V.sub _ h)
 ·exact U.o z h
theorem dh.step (U:dh B V A f g o a) (S:Step V A f g o s g' o' s') {ob:R3}(hl:s.heap.get? a=some ob):dh B V A f g' o' a∧s'.heap.get? a=some ob:=by
 refine ⟨⟨U.b,?_,U.fr,U.fp,U.fx,fun x h=>?_,U.c⟩,S.kept.keep a ob hl U.qA U.fr⟩
 ·cases q:g' a with
  | none=>rfl
  | some b0 =>
   rcases S.gn a U.g (by rw [q];exact fun z=>nomatch z) with ⟨x,h⟩|h
   ·exact (U.o x h).elim
   ·rw [hl] at h;cases h
 ·rcases S.on x a h with ⟨y,h⟩|h
  ·exact U.o y h
  ·rw [hl] at h;cases h
theorem FR.wr {wr:List Qt}{h':QL}{tk:Nat}{dr:S6}(F:FR B V A f g o ρ b s) (hU:∀ a∈wr,dh B V A f g o a) (gm:∀ a ob,g a=some ob→g' a=some ob) (gn:∀ a,g a=none→g' a≠none→s.heap.get? a=none)
  (gs:∀ a ob,g' a=some ob→h'.get? a=some ob) (k:∀ a ob,a∉wr→s.heap.get? a=some ob→h'.get? a=some ob):FR B V A f g' o ρ b ⟨h',s.gens,dr,tk,s.os⟩:=by
 have lD:∀ a,(∃ ob,s.heap.get? a=some ob)→g a=none→g' a=none:=fun a hl e=>by
  cases q:g' a with
  | none=>rfl
  | some ob =>
   have:=gn a e (by rw [q];exact fun z=>nomatch z)
   obtain ⟨b0,e'⟩:=hl
   exact dP this e'
 have nm:∀ a,Mod V f o a→a∉wr:=fun a h q=>(hU a q).qA h
 have ns:∀ m,s.heap.Ns f.env.locals m→h'.Ns f.env.locals m:=fun m hn=>hn.at' fun ob e=>k _ ob (nm _ (.inl F.ib)) e
 have cl:∀ x c,f.env.cells.lookup x=some c→∀ ov,s.heap.IsCell c ov→h'.IsCell c ov:=fun x c hc ov ⟨ob,e,hd⟩=>⟨ob,k c ob (fun q=>(hU c q).c x c hc rfl) e,hd⟩
 refine { F with bC:=fun a ob q=>k a ob (fun h=>by have:=(hU a h).b;rw [q] at this;cases this) (F.bC a ob q),gens:=F.gens,bf:=gs,lE:=fun a h=>lD a (F.da.live h) (F.lE a h),f9:=fun a h=>lD a (F.live a h) (F.f9 a h),live:=fun a h=>?_,view:=V.fj _ _ _ F.view fun a h ob q=>k a ob (fun z=>(hU a z).fp h) q,vars:=fun x e hx=>?_,kE:=?_,cells:=fun x c hc=>?_,da:=F.da.slot fun a h ob q=>⟨ob,k a ob (fun z=>(hU a z).fr h) q,fun h=>h⟩,pin:=fun p hp=>(F.pin p hp).move ns (cl p.1) }
 ·obtain ⟨ob,q⟩:=F.live a h
  exact ⟨ob,k a ob (nm a h) q⟩
 ·obtain ⟨v,h1,h2⟩:=F.vars x e hx
  exact ⟨v,h1.move ns (cl x),h2.mono gm fun a h ob q=>k a ob (nm a (.inr (.inr ⟨x,h⟩))) q⟩
 ·obtain ⟨m,hn⟩:=F.kE
  exact ⟨m,ns m hn⟩
 ·have K:=F.cells x c hc
  exact { K with c2:=K.c2.elim fun v h=>⟨v,cl x c hc v h⟩ }
theorem Step.wr {wr:List Qt}{h':QL}{tk:Nat}{dr:S6}{jm:Qs}{iL:GM}{F9:Qy→List Qt}(S:Step V A f iL F9 jm g o s) (hw:∀ a∈wr,jm.heap.get? a=none) (gm:∀ a ob,g a=some ob→g' a=some ob) (gn:∀ a,g a=none→g' a≠none→s.heap.get? a=none)
  (k:∀ a ob,a∉wr→s.heap.get? a=some ob→h'.get? a=some ob):Step V A f iL F9 jm g' o ⟨h',s.gens,dr,tk,s.os⟩:=by
 have nw:∀ a ob,jm.heap.get? a=some ob→a∉wr:=fun a ob q h=>by exact dP (hw a h) q
 refine ⟨⟨fun a ob q p r=>k a ob (nw a ob q) (S.kept.keep a ob q p r),fun a ob q p=>?_⟩,fun a ob q=>?_,fun a ob q=>gm a ob (S.gm a ob q),fun a q q'=>?_,S.on,S.os⟩
 ·obtain ⟨sl,e⟩:=S.kept.slot a ob q p
  exact ⟨sl,k a _ (nw a ob q) e⟩
 ·obtain ⟨b0,e⟩:=S.iW a ob q
  exact ⟨b0,k a b0 (nw a ob q) e⟩
 ·cases e:g a with
  | some ob=>exact S.gn a q (by rw [e];exact fun z=>nomatch z)
  | none =>
   refine .inr ?_
   cases e2:jm.heap.get? a with
   | none=>rfl
   | some ob =>
    obtain ⟨b0,e3⟩:=S.iW a ob e2
    exact dP (gn a e q') e3
end
structure Src (X:Cx) (A:QE) (target:QR) (I:Qt) (fp wr:List Qt) (iL:GM) (ds:List D) (St:Nat→QL→Prop) (Md:Nat→Qr→QL→Prop):Prop where
 sub:∀ a∈wr,a∈fp
 live:∀ i h,St i h→∀ a∈wr,∃ ob,h.get? a=some ob
 frame:∀ i h h',St i h→(∀ a∈fp,∀ ob,h.get? a=some ob→h'.get? a=some ob)→St i h'
 item:∀ i d (g:GM) (s:Qs) (Q:Option Qr→Qs→Prop) (E:Qr→Qs→Prop),ds[i]?=some d→St i s.heap→(∀ a ob,iL a=some ob→g a=some ob)→(∀ a ob,g a=some ob→s.heap.get? a=some ob)→(∀ a∈wr,g a=none) →
  (∀ v g' h' tk,(∀ a ob,g a=some ob→g' a=some ob)→(∀ a,g a=none→g' a≠none→s.heap.get? a=none)→(∀ a ob,g' a=some ob→h'.get? a=some ob)→Rep g' X.V.obj v d→Md i v h' →
   (∀ a ob,a∉wr→s.heap.get? a=some ob→h'.get? a=some ob)→Q (some v) { s with heap:=h',toks:=tk })→QF (QJ X.prog X.w) A (pyNext (.ref I)) Q E s
 go:∀ i v (s:Qs) (Q:Unit→Qs→Prop) (E:Qr→Qs→Prop),Md i v s.heap→(∀ h',St (i+1) h'→(∀ a ob,a∉wr→s.heap.get? a=some ob→h'.get? a=some ob)→Q () { s with heap:=h' }) →
  QF (QJ X.prog X.w) A (letOwnedTupleGo target (.ref I) v) Q E s
 done:∀ (s:Qs) (Q:Option Qr→Qs→Prop) (E:Qr→Qs→Prop),St ds.length s.heap→(∀ h' tk,(∀ a ob,a∉wr→s.heap.get? a=some ob→h'.get? a=some ob)→Q none { s with heap:=h',toks:=tk })→QF (QJ X.prog X.w) A (pyNext (.ref I)) Q E s
 self:∀ i (s:Qs) (Q:Qr→Qs→Prop) (E:Qr→Qs→Prop),St i s.heap→Q (.ref I) s→QF (QJ X.prog X.w) A (pyIter (.ref I)) Q E s
noncomputable def SrcAt (X:Cx) (A:QE) (f:FD) (own:Bool) (fp wr:List Qt) (g:GM) (o:Qy→List Qt) (s:Qs):Prop :=
 (∀ a∈wr,dh X.B X.V A f g o a∧∃ ob,s.heap.get? a=some ob)∧∀ a∈fp,a∈wr∨g a≠none∨(own=true∧∃ x,x≠bh∧a∈o x)
noncomputable def IT (X:Cx) (n:Nat) (sc:QM) (own:Bool) (target iter:QR) (ρ:Rw) (b:Array UInt8) (ds:List D) (ρ':Rw) (b':Array UInt8):Prop :=
 ∀ (A:QE) (f:FD) (g:GM) (o:Qy→List Qt) (s:Qs) (Q:Qr→Qs→Prop) (E:Qr→Qs→Prop),cG A n→f.env.scope=sc→FR X.B X.V A f g o ρ b s →
  (∀ I fp wr St Md g' o' s',FR X.B X.V A f g' o' ρ' b' s'→bK X.V A f g o s g' o' s'→Src X A target I fp wr g' ds St Md→St 0 s'.heap→SrcAt X A f own fp wr g' o' s'→(∀ a∈wr,s.heap.get? a=none)→Q (.ref I) s') →
   QF (QJ X.prog X.w) A (eval iter f.env) (fun x ah=>QF (QJ X.prog X.w) A (pyIter x) Q E ah) E s
inductive pA (sc:QM) (loc:Bool):QR→D→Rw→Rw→Prop
 | name {x:Qy}{p:Rd}{d:D}{ρ:Rw}:stN sc x=true→(loc=true→sc.names.lookup x=some .local)→pA sc loc (.Name x p) d ρ (aS ρ x (.val d))
 | tup {es:List QR}{k:Nat}{p:Rd}{xs:List Qy}{ds:List D}{ρ:Rw}:BK es xs→ds.length=xs.length→(∀ x∈xs,stN sc x=true)→(loc=true→∀ x∈xs,sc.names.lookup x=some .local)→pA sc loc (.Tuple es k p) (.tup ds) ρ (stores ρ (xs.zip (ds.map En.val)))
section
variable {X:Cx}{n:Nat}{sc:QM}{ρ ρ' af ay cN:Rw}{b ao b₂ eb:Array UInt8}{r:Fl}
theorem dU {A:QE}{f:FD}{g:GM}{o:Qy→List Qt}{s:Qs}{E:Qr→Qs→Prop}{Q:Unit→Qs→Prop}{t:QR}{loc:Bool}{d:D}{v:Qr}(hT:pA sc loc t d ρ ρ') (hh:A.handled=none) (aY:f.env.scope=sc)
  (hc:f.comp=false∨loc=true) (hp:∀ p∈f.pin,p.1=("self":Qy)) (F:FR X.B X.V A f g o ρ b s) (hv:Rep g X.V.obj v d)
  (q:∀ o' s',FR X.B X.V A f g o' ρ' b s'→Step X.V A f g o s g o' s'→Q () s'):QF (QJ X.prog X.w) A (assign t f.env v) Q E s:=by
 cases hT with
 | name h1 h2 =>
  refine PySem.wpAny_assign_Name (FR.lM (os:=[]) (e:=.val d) F aY ⟨h1,hc.imp id h2,hp⟩ (fun a h=>(nomatch h)) hv fun g' o' s' F' S' ⟨e1,_,_⟩=>?_)
  subst e1
  exact q o' s' F' S'
 | tup h1 h2 h3 h4=>exact iU hh aY F hv h1 h2 (fun x hx=>⟨h3 x hx,hc.imp id fun e=>h4 e x hx,hp⟩) q
inductive ey (X:Cx) (n:Nat) (sc:QM) (t:QR) (body:List Rr):List D→Rw→Array UInt8→Fl→Prop
 | nil {ρ:Rw}{b:Array UInt8}:ey X n sc t body [] ρ b (.next ρ b)
 | next {d:D}{ds:List D}{ρ ρ' af:Rw}{b ao:Array UInt8}{r:Fl}:pA sc false t d ρ ρ'→SS X n sc body ρ' b (.next af ao)→ey X n sc t body ds af ao r→ey X n sc t body (d::ds) ρ b r
 | ret {d e:D}{ds:List D}{ρ ρ' af:Rw}{b ao:Array UInt8}:pA sc false t d ρ ρ'→SS X n sc body ρ' b (.ret e af ao)→ey X n sc t body (d::ds) ρ b (.ret e af ao)
 | exc {d:D}{ds:List D}{ρ ρ':Rw}{b ao:Array UInt8}:pA sc false t d ρ ρ'→SS X n sc body ρ' b (.exc ao)→ey X n sc t body (d::ds) ρ b (.exc ao)
theorem SrcAt.step {A:QE}{f:FD}{fp wr:List Qt}{g g':GM}{o o':Qy→List Qt}{s s':Qs}(H:SrcAt X A f false fp wr g o s) (F:FR X.B X.V A f g o ρ b s) (S:Step X.V A f g o s g' o' s') :
  SrcAt X A f false fp wr g' o' s'∧∀ a∈fp,∀ ob,s.heap.get? a=some ob→s'.heap.get? a=some ob:=by
 refine ⟨⟨fun a ha=>?_,fun a ha=>?_⟩,fun a ha ob q=>?_⟩
 ·obtain ⟨U,ob,q⟩:=H.1 a ha
  obtain ⟨U',q'⟩:=U.step S q
  exact ⟨U',ob,q'⟩
 ·rcases H.2 a ha with h|h|h
  ·exact .inl h
  ·refine .inr (.inl ?_)
   cases e:g a with
   | none=>exact absurd e h
   | some ob=>rw [S.gm a ob e];exact fun z=>nomatch z
  ·exact absurd h.1 av
 ·rcases H.2 a ha with h|h|h
  ·exact ((H.1 a h).1.step S q).2
  ·refine S.kept.keep a ob q (fun hm=>h (F.f9 a hm)) fun hm=>h (F.lE a hm)
  ·exact absurd h.1 av
inductive Me (X:Cx) (n:Nat) (sc:QM) (target:QR) (body:List Rr) (r:Fl) (A:QE) (f:FD) (g:GM) (o:Qy→List Qt) (s:Qs) (aE:GM) (fp wr:List Qt) (St:Nat→QL→Prop) (ds:List D) (k:Nat) (s':Qs):Prop
 | mk (i:Nat) (g':GM) (o':Qy→List Qt) (ρ':Rw) (b':Array UInt8) (hk:i+k=ds.length+1) (hle:i≤ds.length) (F':FR X.B X.V A f g' o' ρ' b' s') (S':Step X.V A f g o s g' o' s') (DG:St i s'.heap) (H':SrcAt X A f false fp wr g' o' s') (Bi:∀ a ob,aE a=some ob→g' a=some ob) (hT:ey X n sc target body (ds.drop i) ρ' b' r)
theorem S1.For {target iter:QR}{body:List Rr}{pos:Rd}{ds:List D}(hi:IT X n sc false target iter ρ b ds af ao) (hb:ey X n sc target body ds af ao r) (hs:autoParam (∀ env x,foldedSetIterable iter env x=pure x) qq) :
  S1 X n sc (.For target iter body [] pos) ρ b r:=fun A f g o s Q E R aY I F q=>by
 refine wpAny_For (hi A f g o s _ E R aY F fun it fp wr St Md aE aN ah aA aP W yf uS sd=>codeAny_forLoop_any (Me X n sc target body r A f g o s aE fp wr St ds) (fun k s' I'=>hide fun H kH=>?_) (ds.length+1) ⟨0,aE,aN,af,ao,Sk _,RC _,aA,aP.toStep,yf,uS,fun _ _ e=>e,hb⟩) (hs _)
 obtain ⟨i,g',o',ρ',b',hk,hle,F',S',DG,H',Bi,hT⟩:=I'
 have Hz:∀ a∈wr,g' a=none:=fun a ha=>(H'.1 a ha).1.g
 cases hd:ds[i]? with
 | none =>
  have hlen:ds.length≤i:=List.getElem?_eq_none_iff.mp hd
  rw [RV hlen] at hT
  have e:i=ds.length:=Nat.le_antisymm hle hlen
  have qT:∀ bk,FR X.B X.V A f g' o' ρ' b' bk→Step X.V A f g o s g' o' bk→Q .next bk:=by cases hT;exact fun bk F S=>q _ _ _ F S
  refine kH (W.done s' _ _ (e▸DG) fun h' tk j0=>?_)
  exact Te (qT _ (F'.wr (tk:=tk) (dr:=s'.drawn) (fun a ha=>(H'.1 a ha).1) (fun _ _ e=>e) (fun a e e'=>absurd e e') (fun a ob e=>j0 a ob (fun h=>by rw [Hz a h] at e;cases e) (F'.bf a ob e)) j0) (S'.wr (tk:=tk) (dr:=s'.drawn) sd (fun _ _ e=>e) (fun a e e'=>absurd e e') j0))
 | some d =>
  have fE:i<ds.length:=(g7 hd).1
  have n9:ds.drop i=d::ds.drop (i+1):=(List.drop_eq_getElem_cons fE).trans (congrArg (·::ds.drop (i+1)) (g7 hd).2)
  rw [n9] at hT
  refine kH (W.item i d g' s' _ _ hd DG Bi F'.bf Hz fun v bl eR tk gm gn gs rv md iY=>W.go i v _ _ _ md fun gB ml iX=>hide fun jN jZ=>?_)
  have aM:=F'.wr (tk:=tk) (dr:=s'.drawn) (fun a ha=>(H'.1 a ha).1) gm gn gs iY
  have aO:=S'.wr (tk:=tk) (dr:=s'.drawn) sd gm gn iY
  have E3:∀ a∈wr,dh X.B X.V A f bl o' a:=fun a ha=>by
   obtain ⟨U,ob,e⟩:=H'.1 a ha
   refine { U with g:=?_ }
   cases e2:bl a with
   | none=>rfl
   | some b0 =>
    have:=gn a U.g (by rw [e2];exact fun z=>nomatch z)
    rw [e] at this;cases this
  have cA:=aM.wr (tk:=tk) (dr:=s'.drawn) E3 (fun _ _ e=>e) (fun a e e'=>absurd e e') (fun a ob e=>iX a ob (fun h=>by exact dP ((E3 a h).g) e) (aM.bf a ob e)) iX
  have cO:=aO.wr (tk:=tk) (dr:=s'.drawn) sd (fun _ _ e=>e) (fun a e e'=>absurd e e') iX
  have Mc:SrcAt X A f false fp wr bl o' ⟨gB,s'.gens,s'.drawn,tk,s'.os⟩:=⟨fun a ha=>⟨E3 a ha,W.live _ _ ml a ha⟩,fun a ha=>by
   rcases H'.2 a ha with h|h|h
   ·exact .inl h
   ·refine .inr (.inl ?_)
    cases e:g' a with
    | none=>exact absurd e h
    | some ob=>rw [gm a ob e];exact fun z=>nomatch z
   ·exact absurd h.1 av⟩
  have next:∀ {dQ:Rw}{K:Vr→Qs→Prop}{T:Qr→Qs→Prop},pA sc false target d ρ' dQ→(∀ gy cq,FR X.B X.V A f bl gy dQ b' cq→Step X.V A f g o s bl gy cq→St (i+1) cq.heap→SrcAt X A f false fp wr bl gy cq→QF (QJ X.prog X.w) A (Vl body f.env) K T cq) →
    QF (QJ X.prog X.w) A (PySem.assign target f.env v) (fun _ bk=>QF (QJ X.prog X.w) A (Vl body f.env) K T bk) T ⟨gB,s'.gens,s'.drawn,tk,s'.os⟩:=fun jB kk =>
   dU jB R.1 aY (.inl I.2.2.1) I.2.2.2 cA rv fun gy cq fz fS=>by
    obtain ⟨An,keep⟩:=Mc.step cA fS
    exact kk gy cq fz (cO.trans fS) (W.frame _ _ _ ml keep) An
  cases hT with
  | next jB zI gC =>
   refine jZ (next jB fun gy cq fz fS ye An=>zI A f bl gy cq _ _ R aY I fz fun j5 kP fR l9 kB=>?_)
   obtain ⟨Mb,keep⟩:=An.step fz kB
   exact ⟨k-1,by exact yU hk fE,⟨i+1,j5,kP,_,_,by exact yS hk fE,fE,l9,fS.trans kB,W.frame _ _ _ ye keep,Mb,fun a ob e=>kB.gm a ob (gm a ob (Bi a ob e)),gC⟩⟩
  | ret jB zI=>exact jZ (next jB fun gy cq fz fS ye An=>zI A f bl gy cq _ _ R aY I fz fun v j5 kP fR l9 kB rv=>q v j5 kP fR l9 (fS.trans kB) rv)
  | exc jB zI=>exact jZ (next jB fun gy cq fz fS ye An=>zI A f bl gy cq _ _ R aY I fz fun x fR P=>(P.trans fS).vB I F fun dG P'=>q x dG P')
inductive ia (X:Cx) (n:Nat) (sc:QM) (test:QR) (body:List Rr):Nat→Rw→Array UInt8→Fl→Prop
 | done {k:Nat}{ρ af:Rw}{b ao:Array UInt8}:ST X n sc test ρ b false af ao→ia X n sc test body k ρ b (.next af ao)
 | next {k:Nat}{ρ af ay:Rw}{b ao b₂:Array UInt8}{r:Fl}:ST X n sc test ρ b true af ao→SS X n sc body af ao (.next ay b₂)→ia X n sc test body k ay b₂ r→ia X n sc test body (k+1) ρ b r
 | ret {k:Nat}{e:D}{ρ af ay:Rw}{b ao b₂:Array UInt8}:ST X n sc test ρ b true af ao→SS X n sc body af ao (.ret e ay b₂)→ia X n sc test body k ρ b (.ret e ay b₂)
 | exc {k:Nat}{ρ af:Rw}{b ao b₂:Array UInt8}:ST X n sc test ρ b true af ao→SS X n sc body af ao (.exc b₂)→ia X n sc test body k ρ b (.exc b₂)
inductive PR (X:Cx) (n:Nat) (sc:QM) (test:QR) (body:List Rr) (r:Fl) (A:QE) (f:FD) (g:GM) (o:Qy→List Qt) (s:Qs) (k:Nat) (s':Qs):Prop
 | mk (g':GM) (o':Qy→List Qt) (ρ':Rw) (b':Array UInt8) (F':FR X.B X.V A f g' o' ρ' b' s') (S':Step X.V A f g o s g' o' s') (hT:ia X n sc test body k ρ' b' r)
theorem S1.While {test:QR}{body:List Rr}{pos:Rd}{k:Nat}(hb:ia X n sc test body k ρ b r):S1 X n sc (.While test body [] pos) ρ b r:=fun A f g o s Q E R aY I F q=>by
 refine wpAny_While (codeAny_whileLoop (PR X n sc test body r A f g o s) (fun k s' I'=>hide fun H kH=>?_) k ⟨g,o,ρ,b,F,.refl,hb⟩)
 obtain ⟨g',o',ρ',b',F',S',hT⟩:=I'
 cases hT with
 | done ht=>exact kH (ht A f g' o' s' _ _ R aY F' fun bl cx bk aM aO=>Te (q _ _ _ aM (S'.trans aO.toStep)))
 | next ht zI gC=>exact kH (ht A f g' o' s' _ _ R aY F' fun bl cx bk aM aO=>zI A f bl cx bk _ _ R aY I aM fun gO kn b4 cA cO=>⟨_,SI _,⟨gO,kn,_,_,cA,(S'.trans aO.toStep).trans cO,gC⟩⟩)
 | ret ht zI=>exact kH (ht A f g' o' s' _ _ R aY F' fun bl cx bk aM aO=>zI A f bl cx bk _ _ R aY I aM fun v gO kn b4 cA cO rv=>q v gO kn b4 cA ((S'.trans aO.toStep).trans cO) rv)
 | exc ht zI=>exact kH (ht A f g' o' s' _ _ R aY F' fun bl cx bk aM aO=>zI A f bl cx bk _ _ R aY I aM fun x b4 P=>(P.trans (S'.trans aO.toStep)).vB I F fun dG P'=>q x dG P')
end
structure tj (V:VI) (A:QE) (wr:List Qt) (g:GM) (s:Qs) (g':GM) (s':Qs):Prop where
 kp:∀ a ob,s.heap.get? a=some ob→a∉wr→a∉V.mt→a∉fL A→s'.heap.get? a=some ob
 sl:∀ a ob,s.heap.get? a=some ob→a∉wr→a∉V.mt→∃ sl,s'.heap.get? a=some { ob with slots:=sl }
 lv:∀ a ob,s.heap.get? a=some ob→a∉wr→∃ b0,s'.heap.get? a=some b0
 gm:∀ a ob,g a=some ob→g' a=some ob
 gn:∀ a,g a=none→g' a≠none→s.heap.get? a=none∨a∈wr
 os:s'.os=s.os
section
variable {B:QL}{V:VI}{A:QE}{f fc:FD}{g g' gF:GM}{o o' rl:Qy→List Qt}{ρ ρ':Rw}{b b':Array UInt8}{s jm s' dG:Qs}{a:Qt}{wr wr':List Qt}
theorem tj.trans (x:tj V A wr g s g' s') (y:tj V A wr' g' s' gF dG) (hw:∀ a∈wr',a∈wr∨s.heap.get? a=none):tj V A wr g s gF dG:=by
 have nw:∀ a ob,s.heap.get? a=some ob→a∉wr→a∉wr':=fun a ob e h h'=>by
  rcases hw a h' with q|q
  ·exact h q
  ·rw [e] at q;cases q
 refine ⟨fun a ob e h1 h2 h3=>y.kp a ob (x.kp a ob e h1 h2 h3) (nw a ob e h1) h2 h3,fun a ob e h1 h2=>?_,fun a ob e h1=>?_,fun a ob e=>y.gm a ob (x.gm a ob e),fun a e e'=>?_,y.os.trans x.os⟩
 ·obtain ⟨sl,e1⟩:=x.sl a ob e h1 h2
  obtain ⟨AO,e2⟩:=y.sl a _ e1 (nw a ob e h1) h2
  exact ⟨AO,e2⟩
 ·obtain ⟨b0,e1⟩:=x.lv a ob e h1
  exact y.lv a b0 e1 (nw a ob e h1)
 ·cases q:g' a with
  | some ob=>exact x.gn a e (by rw [q];exact fun z=>nomatch z)
  | none =>
   cases q2:s.heap.get? a with
   | none=>exact .inl rfl
   | some ob =>
    by_cases Ky:a∈wr
    ·exact .inr Ky
    ·obtain ⟨b0,e1⟩:=x.lv a ob q2 Ky
     rcases y.gn a q e' with h|h
     ·exact dP h e1
     ·exact absurd h (nw a ob q2 Ky)
theorem tj.of_keeps {h':QL}{tk:Nat}{dr:S6}(k:∀ a ob,s.heap.get? a=some ob→h'.get? a=some ob):tj V A wr g s g ⟨h',s.gens,dr,tk,s.os⟩ :=
 ⟨fun a ob e _ _ _=>k a ob e,fun a ob e _ _=>⟨ob.slots,k a ob e⟩,fun a ob e _=>⟨ob,k a ob e⟩,fun _ _ e=>e,fun _ e e'=>absurd e e',rfl⟩
theorem tj.rB {iL:GM}(x:tj V A wr iL jm g s) (S:Step V A fc g o s g' o' s') (hf:∀ a,(a∈fc.fx∨∃ y,a∈o y)→jm.heap.get? a=none) (Fp:∀ a∈wr,∃ ob,s.heap.get? a=some ob):tj V A wr iL jm g' s'∧∀ y a,a∈o' y→jm.heap.get? a=none:=by
 have gone:∀ a,s.heap.get? a=none→jm.heap.get? a=none:=fun a h=>by
  cases q:jm.heap.get? a with
  | none=>rfl
  | some ob =>
   by_cases hw:a∈wr
   ·obtain ⟨b0,e⟩:=Fp a hw
    exact dP h e
   ·obtain ⟨b0,e⟩:=x.lv a ob q hw
    exact dP h e
 have nm:∀ a ob,jm.heap.get? a=some ob→a∉V.mt→¬ Mod V fc o a:=fun a ob e h2 h=>by
  rcases h with h|h|h
  ·exact dP (hf a (.inl h)) e
  ·exact h2 h
  ·exact dP (hf a (.inr h)) e
 refine ⟨⟨fun a ob e h1 h2 h3=>S.kept.keep a ob (x.kp a ob e h1 h2 h3) (nm a ob e h2) h3,fun a ob e h1 h2=>?_,fun a ob e h1=>?_,fun a ob e=>S.gm a ob (x.gm a ob e),fun a e e'=>?_,S.os.trans x.os⟩,fun y a h=>?_⟩
 ·obtain ⟨sl,e1⟩:=x.sl a ob e h1 h2
  obtain ⟨AO,e2⟩:=S.kept.slot a _ e1 (nm a ob e h2)
  exact ⟨AO,e2⟩
 ·obtain ⟨b0,e1⟩:=x.lv a ob e h1
  exact S.iW a b0 e1
 ·cases q:g a with
  | some ob=>exact x.gn a e (by rw [q];exact fun z=>nomatch z)
  | none =>
   rcases S.gn a q e' with h|h
   ·exact .inl (hf a (.inr h))
   ·exact .inl (gone a h)
 ·rcases S.on y a h with h|h
  ·exact hf a (.inr h)
  ·exact gone a h
theorem tj.lK {iL:GM}{ws:List Qt}{h':QL}{tk:Nat}{dr:S6}(x:tj V A wr iL jm g s) (hw:∀ a∈ws,a∈wr∨jm.heap.get? a=none) (gm:∀ a ob,g a=some ob→g' a=some ob) (gn:∀ a,g a=none→g' a≠none→s.heap.get? a=none)
  (k:∀ a ob,a∉ws→s.heap.get? a=some ob→h'.get? a=some ob):tj V A wr iL jm g' ⟨h',s.gens,dr,tk,s.os⟩ :=
 x.trans (wr':=ws) ⟨fun a ob e h1 _ _=>k a ob h1 e,fun a ob e h1 _=>⟨ob.slots,k a ob h1 e⟩,fun a ob e h=>⟨ob,k a ob h e⟩,gm,fun a e e'=>.inl (gn a e e'),rfl⟩ hw
theorem FR.LX (F:FR B V A f g o ρ b s) (C:tj V A wr g s g' s') (hU:∀ a∈wr,dh B V A f g o a) (OJ:∀ a∈wr,g' a=none) (hg:s'.gens=#[]) (gs:∀ a ob,g' a=some ob→s'.heap.get? a=some ob) (hv:V.R s'.heap b'):FR B V A f g' o ρ b' s':=by
 have lD:∀ a,(∃ ob,s.heap.get? a=some ob)→g a=none→g' a=none:=fun a hl e=>by
  cases q:g' a with
  | none=>rfl
  | some ob =>
   obtain ⟨b0,e'⟩:=hl
   rcases C.gn a e (by rw [q];exact fun z=>nomatch z) with h|h
   ·exact dP h e'
   ·exact dP (OJ a h) q
 have nm:∀ a,Mod V f o a→a∉wr:=fun a h q=>(hU a q).qA h
 have Lm:f.env.locals∉V.mt:=F.jM
 have ns:∀ m,s.heap.Ns f.env.locals m→s'.heap.Ns f.env.locals m:=fun m hn=>kQ hn fun ob e=>C.sl _ ob e (nm _ (.inl F.ib)) Lm
 have cl:∀ x c,f.env.cells.lookup x=some c→∀ ov,s.heap.IsCell c ov→s'.heap.IsCell c ov:=fun x c hc ov ⟨ob,e,hd⟩ =>
  ⟨ob,C.kp c ob e (fun q=>(hU c q).c x c hc rfl) (fun h=>(F.cells x c hc).c4 (V.sub _ h)) (F.cells x c hc).c3,hd⟩
 refine { F with bC:=fun a ob q=>C.kp a ob (F.bC a ob q) (fun h=>by have:=(hU a h).b;rw [q] at this;cases this) (fun h=>by have:=F.mB a (.inr (.inl h));rw [q] at this;cases this) (fun h=>by have:=F.fB a h;rw [q] at this;cases this),gens:=hg,bf:=gs,lE:=fun a h=>lD a (F.da.live h) (F.lE a h),f9:=fun a h=>lD a (F.live a h) (F.f9 a h),live:=fun a h=>?_,view:=hv,vars:=fun x e hx=>?_,kE:=?_,cells:=fun x c hc=>?_,da:=F.da.slot fun a h ob q=>?_,pin:=fun p hp=>(F.pin p hp).move ns (cl p.1) }
 ·obtain ⟨ob,q⟩:=F.live a h
  exact C.lv a ob q (nm a h)
 ·obtain ⟨v,h1,h2⟩:=F.vars x e hx
  exact ⟨v,h1.move ns (cl x),h2.mono C.gm fun a h ob q=>C.kp a ob q (nm a (.inr (.inr ⟨x,h⟩))) (fun h'=>(F.dY x a h).2 (V.sub _ h')) (F.ic x a h)⟩
 ·obtain ⟨m,hn⟩:=F.kE
  exact ⟨m,ns m hn⟩
 ·have K:=F.cells x c hc
  exact { K with c2:=K.c2.elim fun v h=>⟨v,cl x c hc v h⟩ }
 ·obtain ⟨sl,e⟩:=C.sl a ob q (fun h'=>(hU a h').fr h) fun h'=>F.ry a (V.sub _ h') h
  exact ⟨_,e,fun h=>h⟩
theorem bK.LX (S:bK V A f g o s g' o' s') (F:FR B V A f g' o' ρ b s') (C:tj V A wr g' s' gF dG) (hw:∀ a∈wr,s.heap.get? a=none) (hU:∀ a∈wr,dh B V A f g' o' a):bK V A f g o s gF o' dG:=by
 have gone:∀ a,s'.heap.get? a=none→s.heap.get? a=none:=fun a h=>by
  cases q:s.heap.get? a with
  | none=>rfl
  | some ob =>
   obtain ⟨b0,e⟩:=S.iW a ob q
   exact dP h e
 have nw:∀ a ob,s.heap.get? a=some ob→a∉wr:=fun a ob q h=>by exact dP (hw a h) q
 refine ⟨⟨⟨fun a ob q p r=>C.kp a ob (S.kept.keep a ob q p r) (nw a ob q) (fun h=>p (.inr (.inl h))) r,fun a ob q p=>?_⟩,fun a ob q=>?_,fun a ob q=>C.gm a ob (S.gm a ob q),fun a q q'=>?_,S.on,C.os.trans S.os⟩,fun a h=>⟨(S.tk a h).1,fun ob q=>?_⟩,fun x v h=>(S.vk x v h).move (fun m hn=>kQ hn fun ob e=>C.sl _ ob e (fun h'=>(hU _ h').fx F.ib) F.jM) fun c hc ov ⟨ob,e,hd⟩=>⟨ob,C.kp c ob e (fun q=>(hU c q).c x c hc rfl) (fun h=>(F.cells x c hc).c4 (V.sub _ h)) (F.cells x c hc).c3,hd⟩⟩
 ·obtain ⟨sl,e⟩:=S.kept.slot a ob q p
  obtain ⟨AO,e'⟩:=C.sl a _ e (nw a ob q) fun h=>p (.inr (.inl h))
  exact ⟨AO,e'⟩
 ·obtain ⟨b0,e⟩:=S.iW a ob q
  exact C.lv a b0 e (nw a ob q)
 ·cases e:g' a with
  | some ob=>exact S.gn a q (by rw [e];exact fun z=>nomatch z)
  | none=>exact .inr ((C.gn a e q').elim (gone a) (hw a))
 ·have hm:=(S.tk a h).1
  exact C.kp a ob ((S.tk a h).2 ob q) (fun h'=>(hU a h').o _ hm) (fun h'=>(F.dY _ a hm).2 (V.sub _ h')) (F.ic _ a hm)
end
noncomputable def tf (env:TU):List (Qy×Rg)→List (Qy×Qt)→List (Qy×Qt)
 | [],acc=>acc
 | (n,k)::r,acc=>tf env r (if k==.free then (match env.cells.lookup n with|some a=>(n,a)::acc|none=>acc) else acc)
theorem xu {env:TU}:∀ (names:List (Qy×Rg)) (acc:List (Qy×Qt)),(∀ n,(n,Rg.free)∈names→(env.cells.lookup n).isSome=true) →
  (forIn names acc (fun (x:Qy×Rg) (cs:List (Qy×Qt))=>if (x.2==Rg.free)=true then (do let a ← cellOf env x.1;pure (ForInStep.yield ((x.1,a)::cs))) else (pure (ForInStep.yield cs):Sem (ForInStep (List (Qy×Qt))))))=pure (tf env names acc):=fun names=>by
 induction names with
 | nil =>
  exact fun acc _=>rfl
 | cons lq r bA =>
  obtain ⟨n,k⟩:=lq
  intro acc h
  rw [List.forIn_cons]
  show _=pure (tf env r (ite _ _ _))
  by_cases hk:(k==Rg.free)=true
  ·have e:k=.free:=by simpa using hk
   obtain ⟨a,ha⟩:=RU.mp (h n (by rw [e];exact QB))
   simp only [hk,if_true,ha]
   have:cellOf env n=pure a:=by unfold cellOf;rw [ha]
   rw [this]
   simp only [pure_bind]
   exact bA _ fun m hm=>h m (QD _ hm)
  ·simp only [hk,S8,if_false,pure_bind]
   exact bA _ fun m hm=>h m (QD _ hm)
theorem sO {scope:QM}{env:TU}(h:∀ n,(n,Rg.free)∈scope.names→(env.cells.lookup n).isSome=true):closureFor scope env=pure (tf env scope.names []):=by
 have e:=xu scope.names [] h
 unfold closureFor
 simp only [bind_pure]
 rw [← e]
theorem oE {env:TU}{x:Qy}{c:Qt}:∀ (names:List (Qy×Rg)) (acc:List (Qy×Qt)),(tf env names acc).lookup x=some c→env.cells.lookup x=some c∨acc.lookup x=some c:=fun names=>by
 induction names with
 | nil =>
  exact fun acc h=>.inr h
 | cons lq r bA =>
  obtain ⟨n,k⟩:=lq
  intro acc h
  rcases bA _ h with h|h
  ·exact .inl h
  ·split at h
   ·split at h
    ·rename_i a ha
     rw [Ro] at h
     split at h
     ·rename_i q
      cases h
      rw [beq_iff_eq.mp q];exact .inl ha
     ·exact .inr h
    ·exact .inr h
   ·exact .inr h
theorem BD {env:TU}{x:Qy}:∀ (names:List (Qy×Rg)) (acc:List (Qy×Qt)),(acc.lookup x).isSome=true→((tf env names acc).lookup x).isSome=true:=fun names=>by
 induction names with
 | nil =>
  exact fun acc h=>h
 | cons lq r bA =>
  obtain ⟨n,k⟩:=lq
  intro acc h
  refine bA _ ?_
  split
  ·split
   ·rw [Ro]
    split
    ·rfl
    ·exact h
   ·exact h
  ·exact h
theorem oC {env:TU}{x:Qy}{c:Qt}(hc:env.cells.lookup x=some c):∀ (names:List (Qy×Rg)) (acc:List (Qy×Qt)),(x,Rg.free)∈names→((tf env names acc).lookup x).isSome=true
 | (n,k)::r,acc,h=>by
  rcases bS h with e|h
  ·cases e
   refine BD r _ ?_
   rw [if_pos (show (Rg.free==Rg.free)=true from rfl),hc]
   simp
  ·exact oC hc r _ h
noncomputable def ik (sc scope:QM):QM:={ scope with names:=scope.names.map fun (n,k)=>if (k==.free&&sc.kind==.function&&sc.names.lookup n==some .cell) then (n,.cell) else (n,k) }
theorem iI {scope sc:QM}{env:TU}(h:env.scope=sc):relabel scope env=ik sc scope:=by subst h;rfl
inductive eA (ρ:Rw):List Qy→Rw→Prop
 | nil:eA ρ [] []
 | cons {x:Qy}{d:D}{xs:List Qy}{r:Rw}:lk ρ x=some (.val d)→eA ρ xs r→eA ρ (x::xs) ((x,.val d)::r)
theorem eA.mem {ρ r:Rw}{xs:List Qy}(h:eA ρ xs r):∀ x∈xs,∃ d,lk ρ x=some (.val d):=by
 induction h with
 | nil=>intro x h;cases h
 | cons h _ ih =>
  intro y hy
  rcases bS hy with rfl|hy
  ·exact ⟨_,h⟩
  ·exact ih y hy
theorem eA.lk {ρ r:Rw}{xs:List Qy}(h:eA ρ xs r):∀ x e,Mine.Internal.lk r x=some e→x∈xs∧Mine.Internal.lk ρ x=some e∧∃ d,e=.val d:=by
 induction h with
 | nil=>intro x e h;cases h
 | @cons y d xs r h _ ih =>
  intro x e hx
  unfold Mine.Internal.lk at hx
  split at hx
  ·rename_i q
   cases hx
   rw [q];exact ⟨QB,h,_,rfl⟩
  ·obtain ⟨h1,h2⟩:=ih x e hx
   exact ⟨QD _ h1,h2⟩
noncomputable def iP (sc scope:QM) (fW:List Qy):Bool :=
 scope.kind==.function&&scope.names.all (fun p=>p.2 != .cell)&&scope.names.all (fun p=>p.2 != .local||scope.names.lookup p.1==some .local)&&scope.names.all (fun p=>p.2 != .free||fW.contains p.1) &&
  fW.all (fun n=>scope.names.contains (n,Rg.free)&&(sc.names.lookup n==some .cell||sc.names.lookup n==some .free)&&((ik sc scope).names.lookup n==some .cell||(ik sc scope).names.lookup n==some .free)&&n != bh)
structure kF (sc scope:QM) (fW:List Qy):Prop where
 kind:scope.kind=.function
 yY:∀ p∈scope.names,p.2≠.cell
 loc:∀ p∈scope.names,p.2=.local→scope.names.lookup p.1=some .local
 fr:∀ n,(n,Rg.free)∈scope.names→n∈fW
 each:∀ n∈fW,(n,Rg.free)∈scope.names∧(sc.names.lookup n=some .cell∨sc.names.lookup n=some .free)∧((ik sc scope).names.lookup n=some .cell∨(ik sc scope).names.lookup n=some .free)∧n≠bh
theorem iP.d {sc scope:QM}{fW:List Qy}(h:iP sc scope fW=true):kF sc scope fW:=by
 simp only [iP,R5,R4,beq_iff_eq,bne_iff_ne,Uc,List.contains_eq_mem,decide_eq_true_eq,ne_eq] at h
 obtain ⟨⟨⟨⟨h1,h2⟩,h3⟩,h4⟩,h5⟩:=h
 exact ⟨h1,h2,fun p hp e=>(h3 p hp).resolve_left fun q=>q e,fun n hn=>(h4 _ hn).resolve_left fun q=>q rfl,fun n hn=>⟨(h5 n hn).1.1.1,(h5 n hn).1.1.2,(h5 n hn).1.2,(h5 n hn).2⟩⟩
theorem wM {sc scope:QM}{x:Qy}(hn:∀ p∈scope.names,p.2≠.cell) (h:(ik sc scope).names.lookup x=some .cell):(x,Rg.free)∈scope.names∧sc.names.lookup x=some .cell:=by
 unfold ik at h
 dsimp only at h
 revert hn h
 generalize scope.names=l
 intro hn h
 induction l with
 | nil=>simp at h
 | cons p r ih =>
  obtain ⟨n,k⟩:=p
  rw [QT] at h
  by_cases hc:(k==Rg.free&&sc.kind==.function&&sc.names.lookup n==some .cell)=true
  ·simp only [hc,if_true] at h
   rw [Ro] at h
   split at h
   ·rename_i q
    have e:x=n:=beq_iff_eq.mp q
    subst e
    simp only [R5,beq_iff_eq] at hc
    exact ⟨by rw [hc.1.1];exact QB,hc.2⟩
   ·obtain ⟨h1,h2⟩:=ih (fun p hp=>hn p (QD _ hp)) h
    exact ⟨QD _ h1,h2⟩
  ·simp only [hc,S8,if_false] at h
   rw [Ro] at h
   split at h
   ·cases h
    exact absurd rfl (hn _ QB)
   ·obtain ⟨h1,h2⟩:=ih (fun p hp=>hn p (QD _ hp)) h
    exact ⟨QD _ h1,h2⟩
noncomputable def cQ (scope:QM) (C:Qt) (f:FD):FD:=⟨compEnvC scope (tf f.env scope.names []) C f.env,[C],true,[]⟩
section
variable {B:QL}{V:VI}{A:QE}{f:FD}{g:GM}{o:Qy→List Qt}{ρ gM:Rw}{b:Array UInt8}{s:Qs}{sc scope:QM}{fW:List Qy}
theorem FR.sA (F:FR B V A f g o ρ b s) (aY:f.env.scope=sc) (lA:kF sc scope fW) (hf:eA ρ fW gM) {n:Qy}(hn:n∈fW):∃ d v c,lk ρ n=some (.val d)∧f.env.cells.lookup n=some c∧s.heap.IsCell c (some v)∧Rep g V.obj v d:=by
 obtain ⟨d,hd⟩:=hf.mem n hn
 obtain ⟨v,h1,h2⟩:=F.vars n _ hd
 rcases h1 with ⟨k,_⟩|⟨_,c,hc,hv⟩
 ·have k':sc.names.lookup n=some .local:=aY▸k
  rcases (lA.each n hn).2.1 with q|q<;>rw [q] at k'<;>cases k'
 ·exact ⟨d,v,c,hd,hc,hv,h2⟩
theorem FR.closure (F:FR B V A f g o ρ b s) (aY:f.env.scope=sc) (lA:kF sc scope fW) (hf:eA ρ fW gM):closureFor scope f.env=pure (tf f.env scope.names []) :=
 sO fun n hn=>by
  obtain ⟨_,_,c,_,hc,_⟩:=F.sA aY lA hf (lA.fr n hn)
  rw [hc];rfl
theorem FR.comp {C:Qt}{h₁:QL}{m:Qy→Option Qr}{tk:Nat}{dr:S6}(F:FR B V A f g o ρ b s) (aY:f.env.scope=sc) (lA:kF sc scope fW) (hf:eA ρ fW gM) (k:∀ a ob,s.heap.get? a=some ob→h₁.get? a=some ob) (hC:s.heap.objs.size≤C)
  (hn:h₁.Ns C m):FR B V A (cQ scope C f) g oN gM b ⟨h₁,s.gens,dr,tk,s.os⟩:=by
 have Iq:s.heap.get? C=none:=get_none hC
 have U:=dh.fresh F Iq
 have cl:∀ x c,(tf f.env scope.names []).lookup x=some c→f.env.cells.lookup x=some c:=fun x c h=>(oE _ _ h).resolve_right fun q=>by simp at q
 have md:∀ a,Mod V (cQ scope C f) oN a→a=C∨a∈V.mt:=fun a h=>by
  rcases h with h|h|⟨z,h⟩
  ·exact .inl (bq h)
  ·exact .inr h
  ·cases h
 refine { bC:=fun a ob q=>k a ob (F.bC a ob q),gens:=F.gens,bf:=fun a ob q=>k a ob (F.bf a ob q),lE:=F.lE,f9:=fun a h=>?_,mB:=fun a h=>?_,fB:=F.fB,live:=fun a h=>?_,dY:=fun x a h=>(nomatch h),cX:=fun x y _ a h=>(nomatch h),ic:=fun x a h=>(nomatch h),uu:=fun a h=>?_,ry:=F.ry,view:=V.fj _ _ _ F.view fun a _ ob q=>k a ob q,vars:=fun y e h=>?_,kind:=lA.kind,glob:=F.glob,ib:=QO.mpr rfl,kE:=⟨m,hn⟩,LB:=?_,cells:=fun x c hc=>?_,lg:=fun x hx=>?_,rb:=fun x y c hx hy=>F.rb x y c (cl x c hx) (cl y c hy),da:=?_,eC:=?_,pin:=fun p h=>(nomatch h) }
 ·rcases md a h with rfl|h
  ·exact U.g
  ·exact F.f9 a (.inr (.inl h))
 ·rcases md a h with rfl|h
  ·exact U.b
  ·exact F.mB a (.inr (.inl h))
 ·rcases md a h with rfl|h
  ·obtain ⟨ob,_,_,e,_⟩:=hn
   exact ⟨ob,e⟩
  ·obtain ⟨ob,e⟩:=F.live a (.inr (.inl h))
   exact ⟨ob,k a ob e⟩
 ·cases bq h
  exact U.fp
 ·obtain ⟨h1,h2,d,rfl⟩:=hf.lk y e h
  obtain ⟨d',v,c,k1,k2,k3,k4⟩:=F.sA aY lA hf h1
  cases ig h2 k1
  refine ⟨v,.inr ⟨?_,c,?_,k3.keeps k⟩,k4⟩
  ·have:=(lA.each y h1).2.2.1
   show (relabel scope f.env).names.lookup y=_∨(relabel scope f.env).names.lookup y=_
   rw [iI aY];exact this
  ·obtain ⟨c',Ax⟩:=RU.mp (oC k2 scope.names [] (lA.each y h1).1)
   have:=cl y c' Ax
   cases ig k2 this
   exact Ax
 ·obtain ⟨m',ob,_,_,e,_⟩:=F.kE
  exact Qx F.LB (Qx (R9 (Rt e)) hC)
 ·obtain ⟨c1,⟨v,c2⟩,c3,c4,c5,c6⟩:=F.cells x c (cl x c hc)
  exact ⟨U.c x c (cl x c hc),⟨v,c2.keeps k⟩,c3,c4,fun y q=>(nomatch q),fun q=>(nomatch q)⟩
 ·have Kw:(ik sc scope).names.lookup x=some .cell:=by rw [← iI aY];exact hx
  obtain ⟨h1,h2⟩:=wM lA.yY Kw
  obtain ⟨c,hc⟩:=RU.mp (F.lg x (by show f.env.scope.names.lookup x=_;rw [aY];exact h2))
  exact oC hc scope.names [] h1
 ·exact F.da.slot fun a _ ob q=>⟨ob,k a ob q,fun h=>h⟩
 ·cases q:lk gM bh with
  | none=>rfl
  | some e=>exact absurd rfl (lA.each _ (hf.lk _ _ q).1).2.2.2
end
section
variable {prog:Rn}{w:RE}{A:QE}{R:Result→Qs→Prop}{s:Qs}
theorem jH {elt target iter:QR}{ifs:List QR}{scope:QM}{pos:Rd}{it acc:Qr}{env:TU}(I:Nat→Qs→Prop)
  (turn:∀ n s,I n s→∀ E,QF (QJ prog w) A (pyNext it) (fun r ah=>match r with
   | none=>R (.ok .next) ah
   | some v=>QF (QJ prog w) A (letOwnedTupleGo target it v) (fun _ mj=>QF (QJ prog w) A (PySem.assign target env v) (fun _ bk =>
     QF (QJ prog w) A (forIn ifs true fun c r=>if r=true then do let ok ← isTrue c env (eval c env);pure (ForInStep.yield ok) else pure (ForInStep.yield r)) (fun ok b4 =>
      if ok=true then QF (QJ prog w) A (eval elt env) (fun x cq =>
       QF (QJ prog w) A (call (.builtin "list.append") [acc,x]) (fun _ fR=>∃ m,m<n∧I m fR) E cq) E b4
      else ∃ m,m<n∧I m b4) E bk) E mj) E ah) E s)
  (n:Nat) (h:I n s):RS (QJ prog w) A (.compLoop (.ListComp elt [⟨target,iter,ifs,0⟩] scope pos) 0 it acc env) R s:=by
 refine Up rfl I (fun n s hI=>?_) n h
 show QF _ A ((compTurn (.ListComp elt [⟨target,iter,ifs,0⟩] scope pos) 0 it acc env).onRaise (fun x=>do noteFrame x env;theTreesLotGoes x)) _ _ s
 refine UH ?_
 rw [compTurn_list]
 refine Qq (Q2 (Qq (Q7 (turn n s hI _) (fun r ah h₁=>?_) fun _ _ h'=>h')))
 cases r with
 | none=>exact Qv h₁
 | some v =>
  refine Qq (Q7 h₁ (fun _ mj sb=>?_) fun _ _ h'=>h')
  refine Qq (Q7 sb (fun _ bk eR=>Qq (Q7 eR (fun ok b4 gB=>?_) fun _ _ h'=>h')) fun _ _ h'=>h')
  cases ok with
  | false=>exact Qv ⟨rfl,gB⟩
  | true =>
   exact Qq (Qq (Q7 gB (fun x cq n6=>Qq (Q7 n6 (fun _ fR mP=>Qv (Qv ⟨rfl,mP⟩)) fun _ _ h'=>h')) fun _ _ h'=>h'))
end
inductive rj (X:Cx) (n:Nat) (sc:QM) (ρ:Rw) (b:Array UInt8):List QR→Bool→Prop
 | nil:rj X n sc ρ b [] true
 | one {c:QR}{t:Bool}:ST X n sc c ρ b t ρ b→rj X n sc ρ b [c] t
inductive bQ (X:Cx) (n:Nat) (sc:QM) (t:QR) (ifs:List QR) (elt:QR) (b:Array UInt8):List D→Rw→List D→Prop
 | nil {ρ:Rw}:bQ X n sc t ifs elt b [] ρ []
 | yes {d x:D}{ds out:List D}{ρ ρ':Rw}:pA sc true t d ρ ρ'→rj X n sc ρ' b ifs true→SE X n sc elt ρ' b x ρ' b→bQ X n sc t ifs elt b ds ρ' out→bQ X n sc t ifs elt b (d::ds) ρ (x::out)
 | no {d:D}{ds out:List D}{ρ ρ':Rw}:pA sc true t d ρ ρ'→rj X n sc ρ' b ifs false→bQ X n sc t ifs elt b ds ρ' out→bQ X n sc t ifs elt b (d::ds) ρ out
structure CI (X:Cx) (A:QE) (fc:FD) (ah:Qs) (aE:GM) (wr:List Qt) (Da:Qt) (St:Nat→QL→Prop) (b:Array UInt8) (i:Nat) (g':GM) (oc:Qy→List Qt) (ρ':Rw) (cL:List Qr) (c9:List D) (s':Qs):Prop where
 F:FR X.B X.V A fc g' oc ρ' b s'
 C:tj X.V A wr aE ah g' s'
 B1:∀ y a,a∈oc y→ah.heap.get? a=none
 st:St i s'.heap
 Dl:s'.heap.PlainList Da cL.toArray
 DU:dh X.B X.V A fc g' oc Da
 wU:∀ a∈wr,dh X.B X.V A fc g' oc a
 rep:aB g' X.V.obj cL c9
section
variable {X:Cx}{A:QE}{fc:FD}{ah s' dG:Qs}{aE g' gF:GM}{wr fp:List Qt}{Da I:Qt}{St:Nat→QL→Prop}{Md:Nat→Qr→QL→Prop}{b:Array UInt8}{i:Nat}{oc xH:Qy→List Qt}{ρ' dQ:Rw}{cL:List Qr}{c9 ds:List D}{target:QR}
theorem CI.step (W:Src X A target I fp wr aE ds St Md) (uk:∀ a∈fc.fx,ah.heap.get? a=none) (hp:∀ a∈fp,a∈wr∨((∃ ob,ah.heap.get? a=some ob)∧a∉X.V.mt∧a∉fL A))
  (Y:CI X A fc ah aE wr Da St b i g' oc ρ' cL c9 s') (F':FR X.B X.V A fc gF xH dQ b dG) (S:Step X.V A fc g' oc s' gF xH dG):CI X A fc ah aE wr Da St b i gF xH dQ cL c9 dG:=by
 have hf:∀ a,(a∈fc.fx∨∃ y,a∈oc y)→ah.heap.get? a=none:=fun a h=>h.elim (uk a) fun ⟨y,h⟩=>Y.B1 y a h
 obtain ⟨C',DQ⟩:=Y.C.rB S hf (W.live _ _ Y.st)
 refine ⟨F',C',DQ,?_,?_,?_,?_,Y.rep.mono S.gm⟩
 ·refine W.frame _ _ _ Y.st fun a ha ob q=>?_
  by_cases hw:a∈wr
  ·exact ((Y.wU a hw).step S q).2
  ·rcases hp a ha with h|⟨⟨b0,h1⟩,h2,h3⟩
   ·exact absurd h hw
   ·refine S.kept.keep a ob q (fun hm=>?_) h3
    rcases hm with h|h|h
    ·exact dP (hf a (.inl h)) h1
    ·exact h2 h
    ·exact dP (hf a (.inr h)) h1
 ·obtain ⟨nn,e⟩:=Y.Dl
  exact ⟨nn,(Y.DU.step S e).2⟩
 ·obtain ⟨nn,e⟩:=Y.Dl
  exact (Y.DU.step S e).1
 ·intro a ha
  obtain ⟨ob,e⟩:=W.live _ _ Y.st a ha
  exact ((Y.wU a ha).step S e).1
theorem CI.wrote {h':QL}{tk:Nat}{j:Nat}(W:Src X A target I fp wr aE ds St Md) (hw:∀ a∈wr,∃ ob,ah.heap.get? a=some ob) (hD:ah.heap.get? Da=none) (Y:CI X A fc ah aE wr Da St b i g' oc ρ' cL c9 s')
  (gm:∀ a ob,g' a=some ob→gF a=some ob) (gn:∀ a,g' a=none→gF a≠none→s'.heap.get? a=none) (gs:∀ a ob,gF a=some ob→h'.get? a=some ob) (k:∀ a ob,a∉wr→s'.heap.get? a=some ob→h'.get? a=some ob)
  (st:St j h'):CI X A fc ah aE wr Da St b j gF oc ρ' cL c9 ⟨h',s'.gens,s'.drawn,tk,s'.os⟩:=by
 obtain ⟨nn,e⟩:=Y.Dl
 have Ay:Da∉wr:=fun h=>by obtain ⟨ob,q⟩:=hw Da h;rw [hD] at q;cases q
 have ug:∀ a,dh X.B X.V A fc g' oc a→(∃ ob,s'.heap.get? a=some ob)→dh X.B X.V A fc gF oc a:=fun a U ⟨ob,q⟩=>by
  refine { U with g:=?_ }
  cases e2:gF a with
  | none=>rfl
  | some b0 =>
   have:=gn a U.g (by rw [e2];exact fun z=>nomatch z)
   rw [q] at this;cases this
 exact ⟨Y.F.wr Y.wU gm gn gs k,Y.C.lK (fun a h=>.inl h) gm gn k,Y.B1,st,⟨nn,k Da _ Ay e⟩,ug Da Y.DU ⟨_,e⟩,fun a h=>ug a (Y.wU a h) (W.live _ _ Y.st a h),Y.rep.mono gm⟩
theorem CI.push {h':QL}{tk:Nat}{v:Qr}{d:D}(W:Src X A target I fp wr aE ds St Md) (hw:∀ a∈wr,∃ ob,ah.heap.get? a=some ob) (hp:∀ a∈fp,a∈wr∨((∃ ob,ah.heap.get? a=some ob)∧a∉X.V.mt∧a∉fL A)) (hD:ah.heap.get? Da=none) (Y:CI X A fc ah aE wr Da St b i g' oc ρ' cL c9 s')
  (hv:Rep g' X.V.obj v d) (hl:h'.PlainList Da (cL.toArray.push v)) (hs:QL.SameBut Da s'.heap h'):CI X A fc ah aE wr Da St b i g' oc ρ' (cL++[v]) (c9++[d]) ⟨h',s'.gens,s'.drawn,tk,s'.os⟩:=by
 have k:∀ a ob,a∉[Da]→s'.heap.get? a=some ob→h'.get? a=some ob:=fun a ob h q=>hs.extBut a ob (fun z=>h (by rw [z];exact QO.mpr rfl)) q
 have cy:∀ a,(∃ ob,ah.heap.get? a=some ob)→a≠Da:=fun a ⟨ob,q⟩ z=>by rw [z,hD] at q;cases q
 have gs:∀ a ob,g' a=some ob→h'.get? a=some ob:=fun a ob q=>k a ob (fun h=>by have e:=Y.DU.g;rw [← bq h,q] at e;cases e) (Y.F.bf a ob q)
 refine ⟨Y.F.wr (wr:=[Da]) (fun a h=>by cases bq h;exact Y.DU) (fun _ _ q=>q) (fun _ q q'=>absurd q q') gs k,
  Y.C.lK (ws:=[Da]) (fun a h=>by cases bq h;exact .inr hD) (fun _ _ q=>q) (fun _ q q'=>absurd q q') k,Y.B1,?_,?_,Y.DU,Y.wU,Y.rep.append (.one hv)⟩
 ·refine W.frame _ _ _ Y.st fun a ha ob q=>k a ob (fun h=>?_) q
  refine cy a ?_ (bq h)
  rcases hp a ha with h|h
  ·exact hw a h
  ·exact h.1
 ·rwa [show (cL++[v]).toArray=cL.toArray.push v by simp]
end
section
variable {X:Cx}{n:Nat}{sc scope:QM}{ρ af ay gM ki:Rw}{b ao b₂:Array UInt8}{fW:List Qy}{own:Bool}{target iter elt:QR}{ifs:List QR}{ds out:List D}{pos:Rd}
inductive CompEnd (X:Cx) (A:QE) (f:FD) (g:GM) (o:Qy→List Qt) (s:Qs) (ρ:Rw) (b:Array UInt8) (out:List D) (Da C:Qt) (s':Qs):Prop
 | mk (g':GM) (o':Qy→List Qt) (h1:FR X.B X.V A f g' o' ρ b s') (h2:bK X.V A f g o s g' o' s') (h3:Rep g' X.V.obj (.ref Da) (.list out)) (h4:dh X.B X.V A f g' o' C) (h5:s.heap.get? C=none) (h6:∃ m,s'.heap.Ns C m)
theorem dh.inner {A:QE}{f:FD}{g:GM}{o:Qy→List Qt}{a C:Qt}{scope:QM}(U:dh X.B X.V A f g o a) (h:a≠C):dh X.B X.V A (cQ scope C f) g oN a :=
 ⟨U.b,U.g,U.fr,U.fp,fun q=>h (bq q),fun x q=>(nomatch q),fun x c hc=>U.c x c ((oE _ _ hc).resolve_right fun q=>by simp at q)⟩
inductive NJ (X:Cx) (n:Nat) (sc scope:QM) (target:QR) (ifs:List QR) (elt:QR) (ao:Array UInt8) (ds out:List D) (A:QE) (C:Qt) (f:FD) (ah:Qs) (aE:GM) (wr:List Qt) (Da:Qt) (St:Nat→QL→Prop) (k:Nat) (s':Qs):Prop
 | mk (i:Nat) (g':GM) (oc:Qy→List Qt) (ρ':Rw) (cL:List Qr) (c9 rest:List D) (hk:i+k=ds.length+1) (hle:i≤ds.length) (Y:CI X A (cQ scope C f) ah aE wr Da St ao i g' oc ρ' cL c9 s') (hT:bQ X n (ik sc scope) target ifs elt ao (ds.drop i) ρ' rest) (g4:out=c9++rest) (ft:c9.length≤i)
structure FO (X:Cx) (scope:QM) (A:QE) (f:FD) (g:GM) (o:Qy→List Qt) (s:Qs) (af:Rw) (ao:Array UInt8) (aE:GM) (aN:Qy→List Qt) (ah:Qs) (fp wr:List Qt) (C Da:Qt):Prop where
 F:FR X.B X.V A f aE aN af ao ah
 S:bK X.V A f g o s aE aN ah
 wU:∀ a∈wr,dh X.B X.V A f aE aN a
 wl:∀ a∈wr,∃ ob,ah.heap.get? a=some ob
 w0:∀ a∈wr,s.heap.get? a=none
 Dn:ah.heap.get? Da=none
 Cn:ah.heap.get? C=none
 DC:Da≠C
 fp:∀ a∈fp,a∈wr∨((∃ ob,ah.heap.get? a=some ob)∧a∉X.V.mt∧a∉fL A)
theorem FO.Jb {f:FD}{A:QE}{g:GM}{o:Qy→List Qt}{s:Qs}{aE:GM}{aN:Qy→List Qt}{ah:Qs}{fp wr:List Qt}{C Da:Qt}(Z:FO X scope A f g o s af ao aE aN ah fp wr C Da) {c:Qt}(h:ah.heap.get? c=none):c∉wr:=fun hc=>by
 obtain ⟨ob,q⟩:=Z.wl c hc
 exact dP h q
theorem FO.ended {f:FD}{A:QE}{g:GM}{o:Qy→List Qt}{s:Qs}{aE:GM}{aN:Qy→List Qt}{ah:Qs}{fp wr:List Qt}{C Da:Qt}(Z:FO X scope A f g o s af ao aE aN ah fp wr C Da) {St:Nat→QL→Prop}{i:Nat}{g':GM}{oc:Qy→List Qt}{ρ':Rw}{cL:List Qr}{s':Qs}
  (Y:CI X A (cQ scope C f) ah aE wr Da St ao i g' oc ρ' cL out s') {h':QL}{tk:Nat}(j0:∀ a ob,a∉wr→s'.heap.get? a=some ob→h'.get? a=some ob):CompEnd X A f g o s af ao out Da C ⟨h',s'.gens,s'.drawn,tk,s'.os⟩:=by
 have Hz:∀ a∈wr,g' a=none:=fun a ha=>(Y.wU a ha).g
 have C':=Y.C.lK (tk:=tk) (dr:=s'.drawn) (fun a h=>.inl h) (fun _ _ q=>q) (fun _ q q'=>absurd q q') j0
 have gs:∀ a ob,g' a=some ob→h'.get? a=some ob:=fun a ob q=>j0 a ob (fun h=>by exact dP (Hz a h) q) (Y.F.bf a ob q)
 have Ob:X.V.R h' ao:=X.V.fj _ _ _ Y.F.view fun a ha ob q=>j0 a ob (fun h=>(Y.wU a h).fp ha) q
 have OM:g' C=none:=Y.F.f9 C (.inl (QO.mpr rfl))
 have Og:s.heap.get? C=none:=by
  cases e:s.heap.get? C with
  | none=>rfl
  | some ob =>
   obtain ⟨b0,e'⟩:=Z.S.iW C ob e
   exact dP Z.Cn e'
 obtain ⟨nn,hD⟩:=Y.Dl
 have Nt:=j0 Da _ (Z.Jb Z.Dn) hD
 obtain ⟨B,hB⟩:∃ B:R3,B={ cls:=.type "list",data:=.seq cL.toArray nn }:=⟨_,rfl⟩
 rw [← hB] at Nt
 have iu:=GM.iR (g:=g') (a:=Da) (ob:=B) (.inl Y.DU.g)
 have Jt:∀ a,a≠Da→GM.add g' Da B a=g' a:=fun a h=>if_neg h
 have NK:tj X.V A wr aE ah (GM.add g' Da B) ⟨h',s'.gens,s'.drawn,tk,s'.os⟩ :=
  ⟨C'.kp,C'.sl,C'.lv,fun a ob q=>iu a ob (C'.gm a ob q),fun a q q'=>(Decidable.em (a=Da)).elim (fun e=>.inl (e▸Z.Dn)) fun e=>C'.gn a q (by rwa [Jt a e] at q'),C'.os⟩
 have F':FR X.B X.V A f (GM.add g' Da B) aN af ao ⟨h',s'.gens,s'.drawn,tk,s'.os⟩:=Z.F.LX NK Z.wU (fun a ha=>by rw [Jt a fun e=>Z.Jb Z.Dn (e▸ha)];exact Hz a ha) Y.F.gens (fun a ob q=>by
  by_cases e:a=Da
  ·subst e;rw [GM.b7] at q;cases q;exact Nt
  ·rw [Jt a e] at q;exact gs a ob q) Ob
 obtain ⟨m,hm⟩:=Y.F.kE
 exact ⟨_,aN,F',Z.S.LX Z.F NK Z.w0 Z.wU,.list (vs:=cL) (n:=nn) GM.b7 (by rw [hB]) (by rw [hB]) (Y.rep.mono iu),{ dh.fresh Z.F Z.Cn with g:=by rw [Jt C (Ne.symm Z.DC)];exact OM },Og,m,hm.at' fun ob q=>j0 C ob (Z.Jb Z.Cn) q⟩
theorem oA {rest:List Comprehension}(hi:IT X n sc own target iter ρ b ds af ao) (lA:kF sc scope fW) (hf:eA af fW gM)
  (A:QE) (f:FD) (g:GM) (o:Qy→List Qt) (s:Qs) (RR:Qr→Qt→Result→Qs→Prop) (E:Qr→Qs→Prop) (R:cG A n) (aY:f.env.scope=sc) (F:FR X.B X.V A f g o ρ b s)
  (loop:∀ {I:Qt}{fp wr:List Qt}{St:Nat→QL→Prop}{Md:Nat→Qr→QL→Prop}{aE:GM}{aN:Qy→List Qt}{ah:Qs}{C Da:Qt}{b4:Qs},Src X A target I fp wr aE ds St Md→FO X scope A f g o s af ao aE aN ah fp wr C Da→CI X A (cQ scope C f) ah aE wr Da St ao 0 aE oN gM [] [] b4 →
   RS (QJ X.prog X.w) A (.compLoop (.ListComp elt (⟨target,iter,ifs,0⟩::rest) scope pos) 0 (.ref I) (.ref Da) (compEnvC scope (tf f.env scope.names []) C f.env)) (RR (.ref Da) C) b4) :
  QF (QJ X.prog X.w) A (eval iter f.env) (fun x ah=>QF (QJ X.prog X.w) A (pyIter x) (fun it bk=>QF (QJ X.prog X.w) A (newList []) (fun acc b4 =>
   QF (QJ X.prog X.w) A (newFunctionEnv scope f.env.globals (tf f.env scope.names []) [] f.env.qual none .none (some f.env)) (fun sP cq =>
    RS (QJ X.prog X.w) A (.compStart (.ListComp elt (⟨target,iter,ifs,0⟩::rest) scope pos) 0 it acc { sP with scope:=relabel scope f.env }) (RR acc sP.locals) cq) E b4) E bk) E ah) E s:=by
 refine hi A f g o s _ E R aY F fun I fp wr St Md aE aN ah aA aP W yf uS sd=>?_
 refine RW (wpAny_newFunctionEnv lA.yY (fun y hy=>nomatch hy) (fun h₁ qM n7=>?_) lA.kind)
 dsimp only at qM n7 ⊢
 generalize LF:ah.heap.push { cls:=.type "list",dict:=none,data:=.seq ([]:List Qr).toArray }=H2 at qM n7 ⊢
 have hC:H2.objs.size=ah.heap.objs.size+1:=by rw [← LF,Su]
 have Io:ah.heap.objs.size≠H2.objs.size:=by rw [hC];exact RO (SI _)
 have EE:ah.heap.objs.size≤H2.objs.size:=by rw [hC];exact Tv _
 have LG:ah.heap.get? ah.heap.objs.size=none:=get_none (QV _)
 have Iq:ah.heap.get? H2.objs.size=none:=get_none EE
 have old:∀ a ob,ah.heap.get? a=some ob→h₁.get? a=some ob:=fun a ob e=>n7.extBut a ob (RO (by rw [hC];exact Sr (Rt e))) (Qz _ (LF▸Qz _ e))
 have uq:h₁.PlainList ah.heap.objs.size #[]:=⟨_,n7.extBut _ _ Io (Qz _ (LF▸QN _ rfl))⟩
 generalize Qh:H2.objs.size=C at qM n7 Io EE Iq ⊢
 generalize Pl:ah.heap.objs.size=Da at Io LG uq ⊢
 have Fp:∀ a∈wr,∃ ob,ah.heap.get? a=some ob:=fun a ha=>(uS.1 a ha).2
 have Hn:∀ a c,(∃ ob,ah.heap.get? a=some ob)→ah.heap.get? c=none→a≠c:=fun a c ⟨ob,q⟩ h z=>by rw [z,h] at q;cases q
 have hp:∀ a∈fp,a∈wr∨((∃ ob,ah.heap.get? a=some ob)∧a∉X.V.mt∧a∉fL A):=fun a ha=>by
  rcases uS.2 a ha with h|h|⟨_,x,_,h⟩
  ·exact .inl h
  ·refine .inr ⟨?_,fun q=>h (aA.f9 a (.inr (.inl q))),fun q=>h (aA.lE a q)⟩
   cases e:aE a with
   | none=>exact absurd e h
   | some ob=>exact ⟨ob,aA.bf a ob e⟩
  ·exact .inr ⟨aA.live a (.inr (.inr ⟨x,h⟩)),fun q=>(aA.dY x a h).2 (X.V.sub _ q),aA.ic x a h⟩
 have Fc:=aA.comp (C:=C) (h₁:=h₁) (tk:=ah.toks+([]:List (Qy×Qr)).length) (dr:=ah.drawn) aY lA hf old (Pl▸EE) qM
 have uP:CI X A (cQ scope C f) ah aE wr Da St ao 0 aE oN gM [] [] ⟨h₁,ah.gens,ah.drawn,ah.toks+([]:List (Qy×Qr)).length,ah.os⟩ :=
  ⟨Fc,.of_keeps old,fun y a h=>(nomatch h),W.frame _ _ _ yf fun a _ ob q=>old a ob q,uq,(dh.fresh aA LG).inner Io,fun a ha=>(uS.1 a ha).1.inner (Hn a C (Fp a ha) Iq),.nil⟩
 have Z:FO X scope A f g o s af ao aE aN ah fp wr C Da:=⟨aA,aP,fun a ha=>(uS.1 a ha).1,Fp,sd,LG,Iq,Io,hp⟩
 exact codeAny_compStart_list (loop W Z uP) (W.self 0 _ _ _ uP.st (loop W Z uP))
theorem qf (hi:IT X n sc own target iter ρ b ds af ao) (lA:kF sc scope fW) (hf:eA af fW gM) (hT:bQ X n (ik sc scope) target ifs elt ao ds gM out) (hlen:ds.length≤100000)
  (A:QE) (f:FD) (g:GM) (o:Qy→List Qt) (s:Qs) (RR:Qr→Qt→Result→Qs→Prop) (E:Qr→Qs→Prop) (R:cG A n) (aY:f.env.scope=sc) (F:FR X.B X.V A f g o ρ b s)
  (Ii:∀ Da C s',CompEnd X A f g o s af ao out Da C s'→RR (.ref Da) C (.ok .next) s') :
  QF (QJ X.prog X.w) A (eval iter f.env) (fun x ah=>QF (QJ X.prog X.w) A (pyIter x) (fun it bk=>QF (QJ X.prog X.w) A (newList []) (fun acc b4 =>
   QF (QJ X.prog X.w) A (newFunctionEnv scope f.env.globals (tf f.env scope.names []) [] f.env.qual none .none (some f.env)) (fun sP cq =>
    RS (QJ X.prog X.w) A (.compStart (.ListComp elt [⟨target,iter,ifs,0⟩] scope pos) 0 it acc { sP with scope:=relabel scope f.env }) (RR acc sP.locals) cq) E b4) E bk) E ah) E s:=by
 refine oA hi lA hf A f g o s RR E R aY F fun {I fp wr St Md aE aN ah C Da b4} W Z uP=>?_
 have uk:∀ a∈(cQ scope C f).fx,ah.heap.get? a=none:=fun a h=>by cases bq h;exact Z.Cn
 have e1:(cQ scope C f).env.scope=ik sc scope:=iI aY
 refine jH (NJ X n sc scope target ifs elt ao ds out A C f ah aE wr Da St) (fun k s' I' E'=>hide fun H kH=>?_) (ds.length+1) ⟨0,aE,oN,gM,[],[],out,Sk _,RC _,uP,hT,rfl,QV _⟩
 obtain ⟨i,g',oc,ρ',cL,c9,rest,hk,hle,Y,hT,g4,ft⟩:=I'
 cases hd:ds[i]? with
 | none =>
  have hlen:ds.length≤i:=List.getElem?_eq_none_iff.mp hd
  rw [RV hlen] at hT
  have hr:rest=[]:=by cases hT;rfl
  have g4:out=c9:=by rw [g4,hr,Sj]
  have hi:i=ds.length:=Nat.le_antisymm hle hlen
  exact kH (W.done s' _ _ (hi▸Y.st) fun h' tk j0=>Ii Da C _ (g4▸Z.ended Y j0))
 | some d =>
  have fE:i<ds.length:=(g7 hd).1
  have n9:ds.drop i=d::ds.drop (i+1):=(List.drop_eq_getElem_cons fE).trans (congrArg (·::ds.drop (i+1)) (g7 hd).2)
  rw [n9] at hT
  refine kH (W.item i d g' s' _ _ hd Y.st Y.C.gm Y.F.bf (fun a ha=>(Y.wU a ha).g) fun v bl eR tk gm gn gs rv md iY=>W.go i v _ _ _ md fun gB ml iX=>hide fun jN jZ=>?_)
  have ug:∀ a∈wr,bl a=none:=fun a ha=>by
   obtain ⟨ob,q⟩:=W.live _ _ Y.st a ha
   cases e2:bl a with
   | none=>rfl
   | some b0 =>
    have:=gn a (Y.wU a ha).g (by rw [e2];exact fun z=>nomatch z)
    rw [q] at this;cases this
  have sZ:=Y.wrote (tk:=tk) W Z.wl Z.Dn gm gn (fun a ob q=>iX a ob (fun h=>by exact dP (ug a h) q) (gs a ob q)) (fun a ob h q=>iX a ob h (iY a ob h q)) ml
  have asg:∀ {dQ:Rw}{QQ:Unit→Qs→Prop},pA (ik sc scope) true target d ρ' dQ→(∀ gy cq,CI X A (cQ scope C f) ah aE wr Da St ao (i+1) bl gy dQ cL c9 cq→QQ () cq) →
    QF (QJ X.prog X.w) A (PySem.assign target (compEnvC scope (tf f.env scope.names []) C f.env) v) QQ E' ⟨gB,s'.gens,s'.drawn,tk,s'.os⟩:=fun jB kk =>
   dU (f:=cQ scope C f) jB R.1 e1 (.inr rfl) (fun p h=>(nomatch h)) sZ.F rv fun gy cq fz fS=>kk gy cq (sZ.step W uk Z.fp fz fS)
  cases hT with
  | @yes _ x _ rJ _ dQ jB Ez ED gC =>
   have elt:∀ j5 kP fR,CI X A (cQ scope C f) ah aE wr Da St ao (i+1) j5 kP dQ cL c9 fR→QF (QJ X.prog X.w) A (eval elt (compEnvC scope (tf f.env scope.names []) C f.env)) (fun x cq =>
      QF (QJ X.prog X.w) A (call (.builtin "list.append") [.ref Da,x]) (fun _ fR=>∃ m,m<k∧NJ X n sc scope target ifs elt ao ds out A C f ah aE wr Da St m fR) E' cq) E' fR:=fun j5 kP fR jL=>by
    refine ED A (cQ scope C f) j5 kP fR _ E' R e1 jL.F fun u EG DM DE Fb BI ru=>?_
    have uO:=jL.step W uk Z.fp Fb BI.toStep
    have hz:cL.length≤100000:=by rw [uO.rep.length];exact Qx ft (Qx hle hlen)
    refine SU (hsz:=by rw [QH];exact Qx hz av) uO.Dl fun zt zw kY=>?_
    have E1:=uO.push (tk:=DE.toks) W Z.wl Z.fp Z.Dn ru zw kY
    exact ⟨k-1,by exact yU hk fE,⟨i+1,EG,DM,dQ,_,_,rJ,by exact yS hk fE,fE,E1,gC,by rw [g4,Q9];rfl,by rw [QA];exact Nat.succ_le_succ ft⟩⟩
   refine jZ (asg jB fun gy cq je=>?_)
   cases Ez with
   | nil=>exact wpAny_tests_nil (by rw [if_pos rfl];exact elt _ _ _ je)
   | one ht=>exact UJ (ht A (cQ scope C f) bl gy cq _ E' R e1 je.F fun j5 kP fR l9 kB=>by rw [if_pos rfl];exact elt _ _ _ (je.step W uk Z.fp l9 kB.toStep))
  | @no _ _ _ _ dQ jB Ez gC =>
   refine jZ (asg jB fun gy cq je=>?_)
   cases Ez with
   | one ht =>
    refine UJ (ht A (cQ scope C f) bl gy cq _ E' R e1 je.F fun j5 kP fR l9 kB=>?_)
    rw [if_neg av]
    exact ⟨k-1,by exact yU hk fE,⟨i+1,j5,kP,dQ,_,_,rest,by exact yS hk fE,fE,je.step W uk Z.fp l9 kB.toStep,gC,g4,Nat.le_succ_of_le ft⟩⟩
theorem CompEnd.cleared {A:QE}{f:FD}{g:GM}{o:Qy→List Qt}{s s':Qs}{Da C:Qt}{h':QL}(P:CompEnd X A f g o s ρ b out Da C s') (hs:QL.SameBut C s'.heap h') :
  ∃ g' o',FR X.B X.V A f g' o' ρ b { s' with heap:=h' }∧bK X.V A f g o s g' o' { s' with heap:=h' }∧Rep g' X.V.obj (.ref Da) (.list out):=by
 obtain ⟨g',o',F,S,r,U,hC,m,hm⟩:=P
 have k:∀ a ob,a∉[C]→s'.heap.get? a=some ob→h'.get? a=some ob:=fun a ob h q=>hs.extBut a ob (fun z=>h (by rw [z];exact QO.mpr rfl)) q
 refine ⟨g',o',F.wr (wr:=[C]) (fun a h=>by cases bq h;exact U) (fun _ _ q=>q) (fun _ q q'=>absurd q q') (fun a ob q=>k a ob (fun h=>by have e:=U.g;rw [← bq h,q] at e;cases e) (F.bf a ob q)) k,
  ⟨S.toStep.wr (wr:=[C]) (fun a h=>by cases bq h;exact hC) (fun _ _ q=>q) (fun _ q q'=>absurd q q') k,fun a h=>⟨(S.tk a h).1,fun ob q=>k a ob (fun h'=>?_) ((S.tk a h).2 ob q)⟩,fun x v h=>(S.vk x v h).move (fun m hn=>hn.at' fun ob e=>k _ ob (fun z=>U.fx (by rw [← bq z];exact F.ib)) e) fun c hc ov ⟨ob,e,hd⟩=>⟨ob,k c ob (fun z=>U.c x c hc (bq z)) e,hd⟩⟩,r⟩
 have:=U.o bh
 rw [← bq h'] at this
 exact this (S.tk a h).1
theorem i7 (hi:IT X n sc own target iter ρ b ds af ao) (lA:iP sc scope fW=true) (H3:eA ρ fW ki) (hf:eA af fW gM) (hT:bQ X n (ik sc scope) target ifs elt ao ds gM out) (hlen:ds.length≤100000)
  (hs:autoParam (∀ env x,foldedSetIterable iter env x=pure x) qq):SE X n sc (.ListComp elt [⟨target,iter,ifs,0⟩] scope pos) ρ b (.list out) af ao:=fun A f g o s Q E R aY F q=>by
 have K:=iP.d lA
 rw [eval_ListComp]
 refine SK (use:=Option.none) rfl (hs _) (F.closure aY K H3) K.kind K.loc (qf hi K hf hT hlen A f g o s (fun acc C=>compPost (QJ X.prog X.w) A E Option.none Q acc C) E R aY F fun Da C s' P=>?_)
 obtain ⟨_,_,_,_,_,_,_,m,hm⟩:=id P
 refine ⟨m,hm,fun h' mC=>?_⟩
 obtain ⟨g',o',F',S',r⟩:=P.cleared mC
 exact q _ g' o' _ F' S' r
theorem S1.nj {y:Qy}{py yg:Rd}(hi:IT X n sc own target iter ρ b ds af ao) (lA:iP sc scope fW=true) (H3:eA ρ fW ki) (hf:eA af fW gM) (hT:bQ X n (ik sc scope) target ifs elt ao ds gM out) (hlen:ds.length≤100000)
  (hy:stN sc y=true) (KH:∀ env:TU,env.scope=sc→swapsWith (.ListComp elt [⟨target,iter,ifs,0⟩] scope pos) (some (.Name y py)) yg.line env=pure true)
  (hs:autoParam (∀ env x,foldedSetIterable iter env x=pure x) qq):S1 X n sc (.Assign [.Name y py] (.ListComp elt [⟨target,iter,ifs,0⟩] scope pos) yg) ρ b (.next (aS af y (.val (.list out))) ao):=fun A f g o s Q E R aY I F q=>by
 have K:=iP.d lA
 rw [TS _ _ _ _ (KH _ aY)]
 refine Qq (Q2 (Qq ?_))
 show QF _ A (do let _ ← comprehension (.ListComp elt [⟨target,iter,ifs,0⟩] scope pos) scope f.env _ (newList []) false (eval iter f.env) (some (PySem.assign (.Name y py) f.env))) _ _ s
 refine Qq (Q7 (SK (use:=some (PySem.assign (.Name y py) f.env)) (Q:=fun _ s'=>Q .next s') rfl (hs _) (F.closure aY K H3) K.kind K.loc
  (qf hi K hf hT hlen A f g o s (fun acc C=>compPost (QJ X.prog X.w) A E (some (PySem.assign (.Name y py) f.env)) (fun _ s'=>Q .next s') acc C) E R aY F fun Da C s' P=>?_)) (fun _ s' hq=>Qv (Qv hq)) fun _ _ e=>e)
 obtain ⟨g',o',F',S',r,U,hC,m,hm⟩:=P
 show QF _ A (PySem.assign (.Name y py) f.env (.ref Da)) _ _ _
 refine PySem.wpAny_assign_Name (FR.lM (os:=[]) (e:=.val (.list out)) F' aY (I.EV hy) (fun a h=>(nomatch h)) r fun gF rl dG th xB _=>?_)
 obtain ⟨ob,es,ep,e,rest⟩:=hm
 obtain ⟨IL,LV⟩:=U.step xB e
 refine ⟨m,⟨ob,es,ep,LV,rest⟩,fun h' mC=>?_⟩
 have k:∀ a ob,a∉[C]→dG.heap.get? a=some ob→h'.get? a=some ob:=fun a ob h q=>mC.extBut a ob (fun z=>h (by rw [z];exact QO.mpr rfl)) q
 refine q gF rl _ (th.wr (wr:=[C]) (fun a h=>by cases bq h;exact IL) (fun _ _ q=>q) (fun _ q q'=>absurd q q') (fun a ob q=>k a ob (fun h=>by have e:=IL.g;rw [← bq h,q] at e;cases e) (th.bf a ob q)) k)
  ((S'.toStep.trans xB).wr (wr:=[C]) (fun a h=>by cases bq h;exact hC) (fun _ _ q=>q) (fun _ q q'=>absurd q q') k)
end
section
variable {X:Cx}{n:Nat}{sc:QM}{ρ af ay:Rw}{b ao b₂:Array UInt8}
theorem b5 {A:QE}{f:FD}{g:GM}{o:Qy→List Qt}{s:Qs}{Q:Qr→Qs→Prop}{E:Qr→Qs→Prop}{x:Qy}{T:String}{np pos:Rd}{args:List QR}{ds:List D}(hb:(x,Qr.type T)∈sT) (R:cG A n) (aY:f.env.scope=sc) (F:FR X.B X.V A f g o ρ b s)
  (gE:rh X n sc args ρ b ds af ao) (hk:sc.names.lookup x=some .globalImplicit) (hn:okN x=true) (cy:∀ env,∃ t rest,backTo pos (QS args env)=(false,t)::rest∧rest.any (·.1)=false)
  (h:∀ vs g' o' s',FR X.B X.V A f g' o' af ao s'→bK X.V A f g o s g' o' s'→aB g' X.V.obj vs ds→QF (QJ X.prog X.w) A (call (.type T) vs) Q E s') :
  QF (QJ X.prog X.w) A (eval (.Call (.Name x np) args [] pos) f.env) Q E s:=by
 refine RG (Bl F (by rw [aY];exact hk) (X.blt _ hb).1 (X.blt _ hb).2 hn ?_)
 obtain ⟨t,rest,e,hr⟩:=cy f.env
 show QF _ A (callWith pos (.type T) [] (backTo pos (QS args f.env)) []) Q E s
 rw [e]
 refine PySem.callWith_type (by show (false||rest.any (·.1))=false;rw [hr];rfl) (Rv ?_)
 rw [← e]
 exact gE pos A f g o s _ E R aY F fun vs g' o' s' F' S' r'=>h vs g' o' s' F' S' r'
theorem j8 {A:QE}{f:FD}{g:GM}{o:Qy→List Qt}{s:Qs}{Q:Qr→Qs→Prop}{E:Qr→Qs→Prop}{x:Qy}{T:String}{np pos:Rd}{args:List QR}{ds:List D}(hb:(x,Qr.builtin T)∈sT) (R:cG A n) (aY:f.env.scope=sc) (F:FR X.B X.V A f g o ρ b s)
  (gE:rh X n sc args ρ b ds af ao) (hk:sc.names.lookup x=some .globalImplicit) (hn:okN x=true) (cy:∀ env,∃ t rest,backTo pos (QS args env)=(false,t)::rest∧rest.any (·.1)=false)
  (h:∀ vs g' o' s',FR X.B X.V A f g' o' af ao s'→bK X.V A f g o s g' o' s'→aB g' X.V.obj vs ds→QF (QJ X.prog X.w) A (call (.builtin T) vs) Q E s') :
  QF (QJ X.prog X.w) A (eval (.Call (.Name x np) args [] pos) f.env) Q E s:=by
 refine RG (Bl F (by rw [aY];exact hk) (X.blt _ hb).1 (X.blt _ hb).2 hn ?_)
 obtain ⟨t,rest,e,hr⟩:=cy f.env
 show QF _ A (callWith pos (.builtin T) [] (backTo pos (QS args f.env)) []) Q E s
 rw [e]
 refine SJ (by show (false||rest.any (·.1))=false;rw [hr];rfl) (Rv ?_)
 rw [← e]
 exact gE pos A f g o s _ E R aY F fun vs g' o' s' F' S' r'=>h vs g' o' s' F' S' r'
theorem Src.ofWalks {A:QE}{target:QR}{I:Qt}{fp wr:List Qt}{iL:GM}{ds:List D}{P:Nat→Qr→Prop}{St:Nat→QL→Prop}(W:Walks X.prog X.w A I fp wr ds.length P St) (hl:∀ i h,St i h→∀ a∈wr,∃ ob,h.get? a=some ob)
  (hP:∀ i v d g,P i v→ds[i]?=some d→(∀ a ob,iL a=some ob→g a=some ob)→Rep g X.V.obj v d)
  (La:∀ i v (s:Qs) (Q:Unit→Qs→Prop) (E:Qr→Qs→Prop),St (i+1) s.heap→P i v→i<ds.length→Q () s→QF (QJ X.prog X.w) A (letOwnedTupleGo target (.ref I) v) Q E s) :
  Src X A target I fp wr iL ds St (fun i v h=>St (i+1) h∧P i v∧i<ds.length) where
 sub:=W.sub
 live:=hl
 frame:=W.frame
 item:=fun i d g s Q E hd st hg hs hw hQ=>W.item i s Q E (g7 hd).1 st fun v h' tk hv DG k =>
  hQ v g h' tk (fun _ _ e=>e) (fun _ e e'=>absurd e e') (fun a ob e=>k a ob (fun h=>by exact dP (hw a h) e) (hs a ob e)) (hP i v d g hv hd hg) ⟨DG,hv,(g7 hd).1⟩ k
 go:=fun i v s Q E ⟨st,hv,hi⟩ hQ=>La i v s Q E st hv hi (hQ s.heap st fun _ _ _ e=>e)
 done:=W.done
 self:=W.self
theorem og {A:QE}{x:Qy}{p:Rd}{I:Qt}{v:Qr}{s:Qs}{Q:Unit→Qs→Prop}{E:Qr→Qs→Prop}(h:Q () s):QF (QJ X.prog X.w) A (letOwnedTupleGo (.Name x p) (.ref I) v) Q E s:=Qv h
theorem gv {A:QE}{f:FD}{g aE:GM}{o aN:Qy→List Qt}{s ah:Qs}{h':QL}{tk:Nat}{own:Bool}{fp wr:List Qt}(aA:FR X.B X.V A f aE aN af ao ah) (aP:bK X.V A f g o s aE aN ah) (k:∀ a ob,ah.heap.get? a=some ob→h'.get? a=some ob)
  (hn:∀ a∈wr,ah.heap.get? a=none) (hl:∀ a∈wr,∃ ob,h'.get? a=some ob) (sk:∀ a∈fp,a∈wr∨aE a≠none∨(own=true∧∃ x,x≠bh∧a∈aN x)) :
  FR X.B X.V A f aE aN af ao ⟨h',ah.gens,ah.drawn,tk,ah.os⟩∧bK X.V A f g o s aE aN ⟨h',ah.gens,ah.drawn,tk,ah.os⟩∧SrcAt X A f own fp wr aE aN ⟨h',ah.gens,ah.drawn,tk,ah.os⟩∧∀ a∈wr,s.heap.get? a=none:=by
 obtain ⟨aM,aO⟩:=aA.keeps (tk:=tk) (dr:=ah.drawn) k
 refine ⟨aM,aP.trans aO,⟨fun a ha=>⟨dh.fresh aA (hn a ha),hl a ha⟩,sk⟩,fun a ha=>?_⟩
 cases e:s.heap.get? a with
 | none=>rfl
 | some ob =>
  obtain ⟨b0,e'⟩:=aP.iW a ob e
  exact dP (hn a ha) e'
theorem mH {x:Qy}{p np pos:Rd}{e:QR}{k:Int}{own:Bool}(he:SE X n sc e ρ b (.int k) af ao) (sj:-(2 ^ 62)≤k) (K9:k<2 ^ 62) (hk:autoParam (sc.names.lookup ("range":Qy)=some .globalImplicit) bG)
  (cv:autoParam (∀ env,QS [e] env=[(false,eval e env)]) cw):IT X n sc own (.Name x p) (.Call (.Name "range" np) [e] [] pos) ρ b ((range k.toNat).map fun (i:Nat)=>D.int (i:Int)) af ao:=fun A f g o s Q E R aY F q=>by
 refine b5 (T:="range") (ds:=[.int k]) av R aY F (au he aF (fun env=>by rw [cv];rfl)) hk av (fun env=>⟨_,_,by rw [cv];rfl,rfl⟩) fun vs aE aN ah aA aP r=>?_
 obtain ⟨_,rfl,r1⟩:=r.wi
 obtain ⟨t,rfl⟩:=r1.bZ
 refine call_range_1 ?_
 refine wpAny_pyIter_range (IsRange.new ..) (small_one av av sj K9) ?_
 have hsz:Builtin.Range.rangeSize 0 k 1=(k.toNat:Int):=by rw [rangeSize_one];split<;>(first|exact (Lq 0 1 [gk bc] (ag (bM (xN (aJ (2 ^ 62))) bc) (ag (cU bc (aJ (2 ^ 62))) (ag (cU (aJ 0) bc) (cu (fy bc (aJ 0)) (aL aa)))))) sj K9 (by assumption)|exact (Lq 0 1 [gk bc] (ag (bM (xN (aJ (2 ^ 62))) bc) (ag (cU bc (aJ (2 ^ 62))) (ag (bI (cU (aJ 0) bc)) (cu (aJ 0) (aL aa)))))) sj K9 (by assumption))
 rw [hsz]
 generalize hH:ah.heap.push { cls:=.type "range",data:=.fields #[.int 0 ah.toks,.int k t,.int 1 (ah.toks+1)] }=H1
 have k1:∀ a ob,ah.heap.get? a=some ob→H1.get? a=some ob:=fun a ob e=>hH▸Qz _ e
 have z1:H1.objs.size=ah.heap.objs.size+1:=by rw [← hH,Su]
 have fJ:=QN (o:={ cls:=.type "range_iterator",data:=.fields #[RM 0,RM (k.toNat:Int),RM 1] }) H1 rfl
 have k2:∀ a ob,H1.get? a=some ob→(H1.push { cls:=.type "range_iterator",data:=.fields #[RM 0,RM (k.toNat:Int),RM 1] }).get? a=some ob:=fun a ob e=>Qz _ e
 generalize H1.push { cls:=.type "range_iterator",data:=.fields #[RM 0,RM (k.toNat:Int),RM 1] }=H2 at fJ k2 ⊢
 have hIn:ah.heap.get? H1.objs.size=none:=get_none (by rw [z1];exact Tv _)
 generalize H1.objs.size=I at fJ hIn ⊢
 have W:=Walks.range (prog:=X.prog) (w:=X.w) (A:=A) R.1 I 0 1 k.toNat
 have hlen:((range k.toNat).map fun (i:Nat)=>D.int (i:Int)).length=k.toNat:=by simp
 obtain ⟨aM,aO,lx,lH⟩:=gv (own:=own) (fp:=[I]) (wr:=[I]) (tk:=ah.toks+1+1) aA aP (fun a ob e=>k2 a ob (k1 a ob e)) (fun a ha=>by cases bq ha;exact hIn) (fun a ha=>by cases bq ha;exact ⟨_,fJ⟩) (fun a ha=>.inl ha)
 refine q _ _ _ _ _ _ _ _ aM aO (Src.ofWalks (hlen▸W) (fun i h st a ha=>by cases bq ha;exact ⟨_,st⟩) (fun i v d g hv hd _=>?_) fun i v s Q E _ _ _ h=>og h) ?_ lx lH
 ·obtain ⟨t',rfl⟩:=hv
  rw [QU] at hd
  obtain ⟨j,h1,h2⟩:=rO hd
  obtain ⟨h4,h5⟩:=g7 h1
  rw [TF] at h5
  subst h5;subst h2
  rw [show (0:Int)+(i:Int)*1=(i:Int) by exact @Gw _]
  exact .int _ _
 ·have e1:(0+((0:Nat):Int)*1)=0:=by simp
  have e2:((k.toNat:Int)-((0:Nat):Int))=(k.toNat:Int):=by simp
  rw [e1,hlen,e2]
  exact fJ
theorem IT.bytes {x:Qy}{p:Rd}{iter:QR}{bs:Array UInt8}{own:Bool}(he:SE X n sc iter ρ b (.bytes bs) af ao):IT X n sc own (.Name x p) iter ρ b (bs.toList.map fun (c:UInt8)=>D.int (c.toNat:Int)) af ao:=fun A f g o s Q E R aY F q=>by
 refine he A f g o s _ E R aY F fun v aE aN ah aA aP r=>?_
 obtain ⟨t,rfl⟩:=r.fA
 refine KBw.pyIter_bytes ?_
 have fJ:=QN (o:={ cls:=.type "bytes_iterator",data:=.fields #[.bytes bs t,.int 0 0] }) ah.heap rfl
 have k2:∀ a ob,ah.heap.get? a=some ob→(ah.heap.push { cls:=.type "bytes_iterator",data:=.fields #[.bytes bs t,.int 0 0] }).get? a=some ob:=fun a ob e=>Qz _ e
 have hIn:ah.heap.get? ah.heap.objs.size=none:=get_none (QV _)
 generalize ah.heap.push { cls:=.type "bytes_iterator",data:=.fields #[.bytes bs t,.int 0 0] }=H2 at fJ k2 ⊢
 generalize ah.heap.objs.size=I at fJ hIn ⊢
 have W:=KBw.walks (prog:=X.prog) (w:=X.w) (A:=A) R.1 I bs t
 have hlen:(bs.toList.map fun (c:UInt8)=>D.int (c.toNat:Int)).length=bs.size:=by simp
 obtain ⟨aM,aO,lx,lH⟩:=gv (own:=own) (fp:=[I]) (wr:=[I]) (tk:=ah.toks) aA aP k2 (fun a ha=>by cases bq ha;exact hIn) (fun a ha=>by cases bq ha;exact ⟨_,fJ⟩) (fun a ha=>.inl ha)
 refine q _ _ _ _ _ _ _ _ aM aO (Src.ofWalks (hlen▸W) (fun i h st a ha=>by cases bq ha;obtain ⟨o,e,_⟩:=st;exact ⟨_,e⟩) (fun i v d g hv hd _=>?_) fun i v s Q E _ _ _ h=>og h) ⟨_,fJ,rfl,rfl⟩ lx lH
 obtain ⟨c,u,h1,rfl⟩:=hv
 rw [QU,Rx,h1] at hd
 cases hd
 exact .int _ _
theorem IT.str {x:Qy}{p:Rd}{iter:QR}{tx:Qy}{own:Bool}(he:SE X n sc iter ρ b (.str tx) af ao):IT X n sc own (.Name x p) iter ρ b (tx.cps.toList.map fun (c:Nat)=>D.str ⟨#[c]⟩) af ao:=fun A f g o s Q E R aY F q=>by
 refine he A f g o s _ E R aY F fun v aE aN ah aA aP r=>?_
 obtain ⟨t,rfl⟩:=r.j9
 have fin:∀ (ob:R3) (T:String),ob={ cls:=.type T,data:=.fields #[.str tx t,.int 0 0] }→Walks X.prog X.w A ah.heap.objs.size [ah.heap.objs.size] [ah.heap.objs.size] tx.cps.size (SignAt tx) (fun i h=>h.IsStrIter ah.heap.objs.size T tx t i)→Q (.ref ah.heap.objs.size) { ah with heap:=ah.heap.push ob }:=fun ob T Em W=>by
  have fJ:=QN (o:=ob) ah.heap (by rw [Em];rfl)
  have k2:∀ a o,ah.heap.get? a=some o→(ah.heap.push ob).get? a=some o:=fun a o e=>Qz _ e
  have hIn:ah.heap.get? ah.heap.objs.size=none:=get_none (QV _)
  generalize ah.heap.push ob=H2 at fJ k2 ⊢
  generalize ah.heap.objs.size=I at fJ hIn W ⊢
  have hlen:(tx.cps.toList.map fun (c:Nat)=>D.str ⟨#[c]⟩).length=tx.cps.size:=by simp
  obtain ⟨aM,aO,lx,lH⟩:=gv (own:=own) (fp:=[I]) (wr:=[I]) (tk:=ah.toks) aA aP k2 (fun a ha=>by cases bq ha;exact hIn) (fun a ha=>by cases bq ha;exact ⟨_,fJ⟩) (fun a ha=>.inl ha)
  refine q _ _ _ _ _ _ _ _ aM aO (Src.ofWalks (hlen▸W) (fun i h st a ha=>by cases bq ha;obtain ⟨o,e,_⟩:=st;exact ⟨_,e⟩) (fun i v d g hv hd _=>?_) fun i v s Q E _ _ _ h=>og h) ⟨_,fJ,by rw [Em],by rw [Em];rfl⟩ lx lH
  obtain ⟨c,u,h1,rfl⟩:=hv
  rw [QU,Rx,h1] at hd
  cases hd
  exact .str _ _
 cases ha:tx.cps.all (·<128)
 ·exact wpAny_pyIter_wide ha (fin _ "str_iterator" rfl (Walks.strWide R.1 _ tx t))
 ·exact wpAny_pyIter_ascii ha (fin _ "str_ascii_iterator" rfl (Walks.strAscii R.1 _ tx t))
theorem nU {A:QE}{f:FD}{g aE:GM}{o aN:Qy→List Qt}{s ah:Qs}{own:Bool}{target:QR}{a:Qt}{ob:R3}{vs:List Qr}{m:Nat}{ds:List D}{Q:Qr→Qs→Prop}{E:Qr→Qs→Prop}(hh:A.handled=none) (aA:FR X.B X.V A f aE aN af ao ah) (aP:bK X.V A f g o s aE aN ah)
  (ha:ah.heap.get? a=some ob) (hc:ob.cls=.type "list") (hd:ob.data=.seq vs.toArray m) (hr:aB aE X.V.obj vs ds) (hp:aE a≠none∨(own=true∧∃ x,x≠bh∧a∈aN x))
  (La:∀ I v (s:Qs) (Q:Unit→Qs→Prop) (E:Qr→Qs→Prop),(∃ l i,s.heap.IsListIter I l i)→v∈vs→Q () s→QF (QJ X.prog X.w) A (letOwnedTupleGo target (.ref I) v) Q E s)
  (q:∀ I fp wr St Md g' o' s',FR X.B X.V A f g' o' af ao s'→bK X.V A f g o s g' o' s'→Src X A target I fp wr g' ds St Md→St 0 s'.heap→SrcAt X A f own fp wr g' o' s'→(∀ a∈wr,s.heap.get? a=none)→Q (.ref I) s') :
  QF (QJ X.prog X.w) A (pyIter (.ref a)) Q E ah:=by
 have hL:ah.heap.IsList a vs.toArray:=⟨ob,ha,hc,m,hd⟩
 refine S3 hL ?_
 have fJ:=QN (o:={ cls:=.type "list_iterator",data:=.fields #[.ref a,.int 0 0] }) ah.heap rfl
 have k2:∀ c o,ah.heap.get? c=some o→(ah.heap.push { cls:=.type "list_iterator",data:=.fields #[.ref a,.int 0 0] }).get? c=some o:=fun c o e=>Qz _ e
 have hIn:ah.heap.get? ah.heap.objs.size=none:=get_none (QV _)
 generalize ah.heap.push { cls:=.type "list_iterator",data:=.fields #[.ref a,.int 0 0] }=H2 at fJ k2 ⊢
 generalize ah.heap.objs.size=I at fJ hIn ⊢
 have cy:a≠I:=fun e=>by rw [e,hIn] at ha;cases ha
 have W:=Walks.list (prog:=X.prog) (w:=X.w) (A:=A) hh I a cy vs.toArray
 have hlen:ds.length=vs.toArray.size:=by rw [QH,hr.length]
 obtain ⟨aM,aO,lx,lH⟩:=gv (own:=own) (fp:=[I,a]) (wr:=[I]) (tk:=ah.toks) aA aP k2 (fun a ha=>by cases bq ha;exact hIn) (fun a ha=>by cases bq ha;exact ⟨_,fJ⟩) (fun c hc=>by
  rcases bS hc with rfl|hc
  ·exact .inl (QO.mpr rfl)
  ·cases bq hc
   exact .inr hp)
 refine q _ _ _ _ _ _ _ _ aM aO (Src.ofWalks (hlen▸W) (fun i h st c hc=>by cases bq hc;obtain ⟨⟨o,e,_⟩,_⟩:=st;exact ⟨_,e⟩) (fun i v d g hv hd hg=>?_) fun i v s Q E st hv _ h=>La I v s Q E ⟨_,_,st.1⟩ (by
  rw [Ri] at hv;exact Q1 hv) h) ⟨⟨_,fJ,rfl,rfl⟩,hL.at fun o e=>k2 _ o e⟩ lx lH
 rw [Ri] at hv
 obtain ⟨u,h1,h2⟩:=hr.get hd
 cases ig hv h1
 exact h2.mono hg
theorem IT.list {x:Qy}{p:Rd}{iter:QR}{ds:List D}{own:Bool}(he:SE X n sc iter ρ b (.list ds) af ao):IT X n sc own (.Name x p) iter ρ b ds af ao:=fun A f g o s Q E R aY F q=>by
 refine he A f g o s _ E R aY F fun v aE aN ah aA aP r=>?_
 obtain ⟨_,_,_,_,rfl,h1,h2,h3,h4⟩:=r.dp
 exact nU R.1 aA aP (aA.bf _ _ h1) h2 h3 h4 (.inl (by rw [h1];exact fun z=>nomatch z)) (fun I v s Q E _ _ h=>og h) q
theorem IT.own {x y:Qy}{p np:Rd}{ds:List D}(hy:lk ρ y=some (.own ds)) (hn:autoParam (okN y=true) bG):IT X n sc true (.Name x p) (.Name y np) ρ b ds ρ b:=fun A f g o s Q E R aY F q=>by
 obtain ⟨v,h1,h2⟩:=F.vars y _ hy
 obtain ⟨a,vs,m,rfl,h3,h4,h5⟩:=h2
 have xd:y≠bh:=fQ F.eC hy
 exact Rb (aV F.kind h1 (okN.d hn).2 (nU R.1 F .refl h4 rfl rfl h5 (.inr ⟨rfl,y,xd,by rw [h3];exact QO.mpr rfl⟩) (fun I v s Q E _ _ h=>og h) q)) (okN.d hn).1
theorem IT.wj {es:List QR}{k:Nat}{p:Rd}{iter:QR}{ds:List D}{own:Bool}(he:SE X n sc iter ρ b (.list ds) af ao) (ht:∀ d∈ds,∃ l,d=.tup l):IT X n sc own (.Tuple es k p) iter ρ b ds af ao:=fun A f g o s Q E R aY F q=>by
 refine he A f g o s _ E R aY F fun v aE aN ah aA aP r=>?_
 obtain ⟨_,_,vs,_,rfl,h1,h2,h3,h4⟩:=r.dp
 refine nU R.1 aA aP (aA.bf _ _ h1) h2 h3 h4 (.inl (by rw [h1];exact fun z=>nomatch z)) (fun I v s Q E hI hv h=>?_) q
 obtain ⟨l,i,hI⟩:=hI
 obtain ⟨T,rfl⟩:∃ T,v=.ref T:=by
  have hlen:=h4.length
  obtain ⟨j,hj,OG⟩:=Sb hv
  have hd:ds[j]?=some (ds[j]'(hlen▸hj)):=QI _
  obtain ⟨u,e1,e2⟩:=h4.get hd
  rw [QI hj,OG] at e1;cases e1
  obtain ⟨l,hl⟩:=ht _ (SV (hlen▸hj))
  rw [hl] at e2
  cases e2;exact ⟨_,rfl⟩
 exact wpAny_letOwnedTupleGo_listiter hI h
end
section
variable {prog:Rn}{w:RE}{A:QE}{E:Qr→Qs→Prop}{s:Qs}
theorem kS {it:Qt}{bs:Array UInt8}{t:UN}{i:Nat}{c:UInt8}{Q:Qr→Qs→Prop}(hit:KBw.IsBytesIter s.heap it bs t i) (hx:bs[i]?=some c)
  (hQ:∀ h',KBw.IsBytesIter h' it bs t (i+1)→QL.SameBut it s.heap h'→Q (.int (c.toNat:Int) s.toks) { s with heap:=h',toks:=s.toks+1 }):QF (QJ prog w) A (Builtin.SmallTypes.nextOf (.ref it)) Q E s:=by
 obtain ⟨o,ho,hc,hd⟩:=id hit
 unfold Builtin.SmallTypes.nextOf
 refine Qq (Rm (name:=Qy.ofString "__next__") (KBw.iter_typeIs hit) KBw.slot_next (Rj KBw.slot_next (KBw.iter_typeIs hit) KBw.entry_next ?_ (KBw.args_next _)))
 show QF _ _ (field (.ref it) 0>>=_) _ _ s
 refine Qq (RL ho hd (x:=.bytes bs t) rfl ?_)
 show QF _ _ (if (Qr.bytes bs t==Qr.none)=true then _ else _) _ _ s
 rw [if_neg (show ¬ ((Qr.bytes bs t==Qr.none)=true) from Bool.false_ne_true)]
 show QF _ _ (field (.ref it) 1>>=_) _ _ s
 refine Qq (RL ho hd (x:=.int i 0) rfl ?_)
 refine Qq (Q4 (a:=bs) rfl ?_)
 simp only [QW,hx]
 refine Qq (Rp ho hd av (Qq (wpAny_mkInt (Qv ⟨_,rfl,Qv (hQ _ ?_ (QL.SameBut.update ..))⟩))))
 exact ⟨_,Rh _ ho (R3.isFreed_of_fields (R3.data_mapFields hd _)),(R3.cls_mapFields ..).trans hc,by rw [R3.data_mapFields hd];simp [RM]⟩
theorem lR {it:Qt}{bs:Array UInt8}{t:UN}{i:Nat}{Q:Qr→Qs→Prop}(hh:A.handled=none) (hit:KBw.IsBytesIter s.heap it bs t i) (hx:bs[i]?=none)
  (hE:∀ h' e,QL.ExtBut it s.heap h'→(∃ o,h'.get? e=some o∧o.cls=.type "StopIteration")→E (.ref e) { s with heap:=h' }):QF (QJ prog w) A (Builtin.SmallTypes.nextOf (.ref it)) Q E s:=by
 obtain ⟨o,ho,hc,hd⟩:=id hit
 unfold Builtin.SmallTypes.nextOf
 refine Qq (Rm (name:=Qy.ofString "__next__") (KBw.iter_typeIs hit) KBw.slot_next (Rj KBw.slot_next (KBw.iter_typeIs hit) KBw.entry_next ?_ (KBw.args_next _)))
 show QF _ _ (field (.ref it) 0>>=_) _ _ s
 refine Qq (RL ho hd (x:=.bytes bs t) rfl ?_)
 show QF _ _ (if (Qr.bytes bs t==Qr.none)=true then _ else _) _ _ s
 rw [if_neg (show ¬ ((Qr.bytes bs t==Qr.none)=true) from Bool.false_ne_true)]
 show QF _ _ (field (.ref it) 1>>=_) _ _ s
 refine Qq (RL ho hd (x:=.int i 0) rfl ?_)
 refine Qq (Q4 (a:=bs) rfl ?_)
 simp only [QW,hx]
 refine Qq (SO (Qq (Rp ho hd av ?_)))
 show QF _ _ (newExc (.type "StopIteration") []>>=_) _ _ _
 refine Qq ?_
 simp only [newExc,newTuple]
 refine Qq (RW ?_ (by size_fits))
 refine Qq (m:=firstArgMember _ _) (Q4 (a:=Qr.none) (by first|rfl|(simp only [firstArgMember];rfl)) ?_)
 refine RW ?_ (by size_fits)
 simp only [raiseNew]
 refine Qq (U4 ?_)
 first|rw [show A.in1.handled=none from hh]|rw [hh]
 refine Qq (Qv (wpAny_throw ?_))
 exact hE _ _ (((QL.SameBut.update ..).extBut.push _).push _) ⟨_,QN _ rfl,rfl⟩
theorem uD {e it:Qt}{bs:Array UInt8}{t:UN}{i:Nat}{c:UInt8}{old:Qr}{Q:Qr→Qs→Prop}(he:IsEnum s.heap e it i old) (hit:KBw.IsBytesIter s.heap it bs t i) (hx:bs[i]?=some c) (cy:e≠it)
  (hQ:∀ h' tk u v,IsEnumOut h' e it ((i:Int)+1) (.int (c.toNat:Int) v) s.heap.objs.size→KBw.IsBytesIter h' it bs t (i+1)→h'.get? s.heap.objs.size=some { cls:=.type "tuple",data:=.seq #[.int i u,.int (c.toNat:Int) v] } →
   (∀ b o,b≠e→b≠it→s.heap.get? b=some o→h'.get? b=some o)→Q (.ref s.heap.objs.size) { s with heap:=h',toks:=tk }) :
  QF (QJ prog w) A (Builtin.«enumerate.__next__» ⟨[.ref e],[]⟩) (fun fin s'=>∃ v,fin=.done (.ret v)∧Q v s') E s:=by
 obtain ⟨hp,g,d,tk,os⟩:=s
 show QF _ _ (field (.ref e) 2>>=_) _ _ _
 refine Qq (RL he rfl (x:=.ref it) rfl ?_)
 refine Qq (kS hit hx fun h₁ zy pX=>?_)
 replace pX:QL.SameBut it hp h₁:=pX
 have pZ:IsEnum h₁ e it i old:=(pX.2 e cy).trans he
 generalize hv:tk=v at *
 show QF _ _ (field (.ref e) 3>>=_) _ _ ⟨h₁,g,d,v+1,os⟩
 refine Qq (RL pZ rfl (x:=RM i) rfl ?_)
 show QF _ _ (field (.ref e) 4>>=_) _ _ ⟨h₁,g,d,v+1,os⟩
 refine Qq (RL pZ rfl (x:=.none) rfl ?_)
 show QF _ _ (mkInt i>>=_) _ _ ⟨h₁,g,d,v+1,os⟩
 refine Qq (wpAny_mkInt ?_)
 show QF _ _ (setField (.ref e) 3 (RM ((i:Int)+1))>>=_) _ _ ⟨h₁,g,d,v+1+1,os⟩
 refine Qq (So pZ av fun eR vK pW=>?_)
 replace pW:QL.SameBut e h₁ eR:=pW
 replace vK:IsEnum eR e it ((i:Int)+1) old:=vK
 show QF _ _ (setField (.ref e) 4 .none>>=_) _ _ ⟨eR,g,d,v+1+1,os⟩
 refine Qq (So vK av fun gB vJ pV=>?_)
 replace pV:QL.SameBut e eR gB:=pV
 replace vJ:IsEnum gB e it ((i:Int)+1) old:=vJ
 show QF _ _ (newTuple [.int i (v+1),.int (c.toNat:Int) v]>>=_) _ _ ⟨gB,g,d,v+1+1,os⟩
 refine Qq (TZ ?_)
 have so:IsEnum (gB.push { cls:=.type "tuple",data:=.seq #[.int i (v+1),.int (c.toNat:Int) v] }) e it ((i:Int)+1) old:=Qz _ vJ
 generalize vI:gB.push { cls:=.type "tuple",data:=.seq #[.int i (v+1),.int (c.toNat:Int) v] }=n6 at so
 have hsz:gB.objs.size=hp.objs.size:=by rw [pV.1,pW.1,pX.1]
 have H6:e<hp.objs.size:=Rt he
 have HC:n6.get? hp.objs.size=some { cls:=.type "tuple",data:=.seq #[.int i (v+1),.int (c.toNat:Int) v] }:=by rw [← vI,← hsz];exact QN _ rfl
 have HQ:∀ b o,b≠e→b≠it→hp.get? b=some o→n6.get? b=some o:=fun b o Ey Jv hb=>by
  rw [← vI];exact Qz _ (pV.extBut b o Ey (pW.extBut b o Ey (pX.extBut b o Jv hb)))
 have Eu:KBw.IsBytesIter n6 it bs t (i+1):=by
  rw [← vI];obtain ⟨o,ho,r⟩:=zy
  exact ⟨o,Qz _ (pV.extBut it o (Ne.symm cy) (pW.extBut it o (Ne.symm cy) ho)),r⟩
 show QF _ _ (Builtin.SmallTypes.ownedTupleIsFree (.ref e)>>=_) _ _ ⟨n6,g,d,v+1+1,os⟩
 rw [hsz]
 clear vI vJ pV vK pW pZ pX zy hsz gB eR h₁
 refine Qq ?_
 ·unfold Builtin.SmallTypes.ownedTupleIsFree
  refine Qq (RL so rfl (x:=.none) rfl (Qv ?_))
  simp only [if_true]
  refine Qq (SO ?_)
  refine Qq (RL so rfl (x:=old) rfl ?_)
  refine Qq (So so av fun mP zD sf=>?_)
  replace sf:QL.SameBut e n6 mP:=sf
  replace zD:IsEnum mP e it ((i:Int)+1) (.int (c.toNat:Int) v):=zD
  show QF _ _ (Builtin.SmallTypes.ownedTupleHandOut (.ref e) (.ref hp.objs.size)>>=_) _ _ ⟨mP,g,d,v+1+1,os⟩
  refine Qq ?_
  ·unfold Builtin.SmallTypes.ownedTupleHandOut
   refine Qq (So zD av fun Ee zC se=>?_)
   replace se:QL.SameBut e mP Ee:=se
   replace zC:IsEnumOut Ee e it ((i:Int)+1) (.int (c.toNat:Int) v) hp.objs.size:=zC
   refine So zC av fun zt zB kY=>?_
   replace kY:QL.SameBut e Ee zt:=kY
   replace zB:IsEnumOut zt e it ((i:Int)+1) (.int (c.toNat:Int) v) hp.objs.size:=zB
   refine Qq (wpAny_letGo (Qv ⟨_,rfl,hQ zt _ (v+1) v zB ?_ ?_ ?_⟩))
   ·obtain ⟨o,ho,r⟩:=Eu
    exact ⟨o,kY.extBut it o (Ne.symm cy) (se.extBut it o (Ne.symm cy) (sf.extBut it o (Ne.symm cy) ho)),r⟩
   ·exact kY.extBut _ _ (R0 H6) (se.extBut _ _ (R0 H6) (sf.extBut _ _ (R0 H6) HC))
   ·exact fun b o Ey Jv hb=>kY.extBut b o Ey (se.extBut b o Ey (sf.extBut b o Ey (HQ b o Ey Jv hb)))
end
theorem tn {prog:Rn}{w:RE}{A:QE}(hh:A.handled=none) (e it:Qt) (Aw:e≠it) (bs:Array UInt8) (t:UN) :
  WalksT prog w A e [e,it] [e,it] bs.size (fun i vals=>∃ u v c,bs[i]?=some c∧vals=#[.int i u,.int (c.toNat:Int) v])
   (fun i h=>(∃ old,IsEnum h e it i old)∧KBw.IsBytesIter h it bs t i) (fun i T h=>(∃ x,IsEnumOut h e it ((i:Int)+1) x T)∧KBw.IsBytesIter h it bs t (i+1)∧T≠e∧T≠it) where
 sub:=fun b hb=>hb
 frame:=fun i h h' ⟨⟨old,he⟩,o,ho,r⟩ hk=>⟨⟨old,hk e (.head _) _ he⟩,o,hk it in1 _ ho,r⟩
 item:=fun i s Q E hi ⟨⟨old,he⟩,hit⟩ hQ=>by
  have hx:bs[i]?=some bs[i]:=Array.getElem?_eq_getElem hi
  have hT:s.TypeIs (.ref e) "enumerate":=⟨_,he,rfl⟩
  have Lg:e<s.heap.objs.size:=Rt he
  have K1:it<s.heap.objs.size:=by obtain ⟨_,x,_⟩:=hit;exact Rt x
  unfold pyNext
  exact Qq (S9 (Rm (name:=Qy.ofString "__next__") hT F.slot_enumerate_next
   (Rj F.slot_enumerate_next hT F.entry_enumerate_next
    (uD he hit hx Aw fun h' tk u v a b c k=>Qv (hQ s.heap.objs.size _ h' tk ⟨u,v,_,hx,rfl⟩ (QV _) ⟨_,c,rfl,_,rfl⟩ ⟨⟨_,a⟩,b,R0 Lg,R0 K1⟩ fun b o hb x=>k b o (fun e'=>hb (by simp [e'])) (fun e'=>hb (by simp [e'])) x)) (F.args_enumerate_next_1 _))))
 go:=fun elts k pos i T s Q E ⟨⟨x,ho⟩,hit,Ih,Nd⟩ hQ=>by
  refine wpAny_letOwnedTupleGo_enum ho fun h' qO mC=>hQ h' ⟨⟨x,by simpa using qO⟩,?_⟩ fun b o hb y=>?_
  ·obtain ⟨o,e1,r⟩:=hit
   exact ⟨o,(mC.2 it Aw.symm).trans e1,r⟩
  ·exact (mC.2 b fun e'=>hb (by simp [e'])).trans y
 apart:=fun i T h ⟨_,_,Ih,Nd⟩ hT=>by
  rcases bS hT with rfl|hT
  ·exact Ih rfl
  ·rcases bS hT with rfl|hT
   ·exact Nd rfl
   ·cases hT
 done:=fun s Q E ⟨⟨old,he⟩,hit⟩ hQ=>by
  have hT:s.TypeIs (.ref e) "enumerate":=⟨_,he,rfl⟩
  unfold pyNext
  refine Qq (S9 (Rm (name:=Qy.ofString "__next__") hT F.slot_enumerate_next
   (Rj F.slot_enumerate_next hT F.entry_enumerate_next ?_ (F.args_enumerate_next_1 _))))
  show QF _ _ (field (.ref e) 2>>=_) _ _ _
  refine Qq (RL he rfl (x:=.ref it) rfl ?_)
  refine Qq (lR hh hit (Array.getElem?_eq_none (QV _)) fun h' x qO Kw=>?_)
  obtain ⟨o,ho,hc⟩:=Kw
  refine Qq (TJ (T:="StopIteration") (b:=true) ⟨o,ho,hc⟩ isSubtype_stop ?_)
  exact Qv (hQ _ _ fun b o hb y=>qO b o (fun e'=>hb (by simp [e'])) y)
 self:=fun i s Q E ⟨⟨old,he⟩,_⟩ hQ=>Tw he hQ
theorem tG {M:To}{A:QE}{f:List (Uq×Rd)→Bool} {Q:Bool→Qs→Prop}{E:Qr→Qs→Prop}{s:Qs}(h:∀ b,Q b s):QF M A stack (fun st s'=>QF M A (pure (f st)) Q E s') E s:=wpAny_stack_any fun st=>Qv (h _)
set_option maxHeartbeats 1000000 in
theorem jy (bs:Array UInt8) (t:UN) :
  Meets (Builtin.«enumerate.__new__» ⟨[.type "enumerate",.bytes bs t],[]⟩) (fun _ R s =>
   R (.ok (.ret (.ref (s.heap.push { cls:=.type "bytes_iterator",data:=.fields #[.bytes bs t,.int 0 0] }).objs.size)))
    { s with heap:=(s.heap.push { cls:=.type "bytes_iterator",data:=.fields #[.bytes bs t,.int 0 0] }).push { cls:=.type "enumerate",data:=.fields #[.none,.bool false,.ref s.heap.objs.size,RM 0,.none,.none] } }) :=
 .of_wp fun prog w A R s h=>by
  obtain ⟨hp,g,d,tk,os⟩:=s
  have iu:=sub_enumerate
  wp_walk
  refine tG fun z=>?_
  cases z<;>(wp_walk using KBw.pyIter_bytes;exact ⟨_,rfl,h⟩)
theorem jJ {prog:Rn}{w:RE}{A:QE}{E:Qr→Qs→Prop}{s:Qs}{bs:Array UInt8}{t:UN}{Q:Qr→Qs→Prop}
  (h:∀ h',IsEnum h' (s.heap.objs.size+1) s.heap.objs.size 0 .none→KBw.IsBytesIter h' s.heap.objs.size bs t 0→(∀ b o,s.heap.get? b=some o→h'.get? b=some o)→Q (.ref (s.heap.objs.size+1)) { s with heap:=h' }) :
  QF (QJ prog w) A (call (.type "enumerate") [.bytes bs t]) Q E s:=by
 refine callType_new F.called_enumerate av (F.typeCall_enumerate_1 _) (F.newCall_enumerate_1 _) (fun obj=>F.args_object_init_2 obj _) F.entry_enumerate_new (jy bs t) ?_
 have hz:(s.heap.push { cls:=.type "bytes_iterator",data:=.fields #[.bytes bs t,.int 0 0] }).objs.size=s.heap.objs.size+1:=Su ..
 show _∧_
 rw [hz]
 have he:IsEnum ((s.heap.push { cls:=.type "bytes_iterator",data:=.fields #[.bytes bs t,.int 0 0] }).push { cls:=.type "enumerate",data:=.fields #[.none,.bool false,.ref s.heap.objs.size,RM 0,.none,.none] }) (s.heap.objs.size+1) s.heap.objs.size 0 .none:=by
  have:=QN (s.heap.push { cls:=.type "bytes_iterator",data:=.fields #[.bytes bs t,.int 0 0] })
   (o:={ cls:=.type "enumerate",data:=.fields #[.none,.bool false,.ref s.heap.objs.size,RM 0,.none,.none] }) rfl
  rw [hz] at this;exact this
 exact ⟨⟨_,he,rfl⟩,h _ he ⟨_,Qz _ (QN _ rfl),rfl,rfl⟩ fun b o x=>Qz _ (Qz _ x)⟩
section
variable {X:Cx}{n:Nat}{sc:QM}{ρ af ay:Rw}{b ao b₂:Array UInt8}
theorem Src.nP {A:QE}{es:List QR}{k:Nat}{p:Rd}{I:Qt}{fp wr:List Qt}{iL:GM}{ds:List (List D)} {Pt:Nat→Array Qr→Prop}{St:Nat→QL→Prop}{NC:Nat→Qt→QL→Prop}(W:WalksT X.prog X.w A I fp wr ds.length Pt St NC)
  (hl:∀ i h,St i h→∀ a∈wr,∃ ob,h.get? a=some ob) (hP:∀ i vs l g,Pt i vs→ds[i]?=some l→(∀ a ob,iL a=some ob→g a=some ob)→aB g X.V.obj vs.toList l) :
  Src X A (.Tuple es k p) I fp wr iL (ds.map D.tup) St (fun i v h=>∃ T,v=.ref T∧NC i T h) where
 sub:=W.sub
 live:=hl
 frame:=W.frame
 item:=fun i d g s Q E hd st hg hs hw hQ=>by
  rw [QU] at hd
  obtain ⟨l,h1,rfl⟩:=rO hd
  refine W.item i s Q E (g7 h1).1 st fun T vals h' tk Pa hT Pf hM k=>?_
  obtain ⟨ob,e1,e2,nn,e3⟩:=Pf
  have FF:s.heap.get? T=none:=get_none hT
  have OL:g T=none:=by
   cases q:g T with
   | none=>rfl
   | some x=>have:=hs T x q;exact dP FF this
  have iu:=GM.iR (g:=g) (a:=T) (ob:=ob) (.inl OL)
  refine hQ (.ref T) (GM.add g T ob) h' tk iu (fun a e e'=>?_) (fun a x q=>?_) (.tup GM.b7 e2 (by rw [e3]) ((hP i vals l g Pa h1 hg).mono iu)) ⟨T,rfl,hM⟩ k
  ·unfold GM.add at e'
   by_cases q:a=T
   ·subst q;exact FF
   ·rw [if_neg q] at e';exact absurd e e'
  ·unfold GM.add at q
   by_cases e:a=T
   ·subst e;cases ig (if_pos rfl) q;exact e1
   ·rw [if_neg e] at q;exact k a x (fun h=>by exact dP (hw a h) q) (hs a x q)
 go:=fun i v s Q E ⟨T,hv,hM⟩ hQ=>by
  subst hv
  exact W.go es k p i T s Q E hM hQ
 done:=fun s Q E st hQ=>W.done s Q E (by rwa [Qu] at st) hQ
 self:=W.self
theorem Src.grow {A:QE}{target:QR}{I:Qt}{fp wr wr':List Qt}{iL:GM}{ds:List D}{St:Nat→QL→Prop}{Md:Nat→Qr→QL→Prop}(W:Src X A target I fp wr iL ds St Md) (h1:∀ a∈wr,a∈wr') (h2:∀ a∈wr',a∈fp) (hl:∀ i h,St i h→∀ a∈wr',∃ ob,h.get? a=some ob) :
  Src X A target I fp wr' iL ds St Md where
 sub:=h2
 live:=hl
 frame:=W.frame
 item:=fun i d g s Q E hd st hg hs hw hQ=>W.item i d g s Q E hd st hg hs (fun a h=>hw a (h1 a h)) fun v g' h' tk gm gn gs r md k=>hQ v g' h' tk gm gn gs r md fun a ob h q=>k a ob (fun z=>h (h1 a z)) q
 go:=fun i v s Q E md hQ=>W.go i v s Q E md fun h' st k=>hQ h' st fun a ob h q=>k a ob (fun z=>h (h1 a z)) q
 done:=fun s Q E st hQ=>W.done s Q E st fun h' tk k=>hQ h' tk fun a ob h q=>k a ob (fun z=>h (h1 a z)) q
 self:=W.self
noncomputable def dF (ds:List D):List (List D):=ds.mapIdx fun i d=>[.int (i:Int),d]
theorem gb (ds:List D):(dF ds).length=ds.length:=by simp [dF]
theorem jU {ds:List D}{i:Nat}{l:List D}(h:(dF ds)[i]?=some l):∃ d,ds[i]?=some d∧l=[.int (i:Int),d]:=by
 unfold dF at h
 rw [List.getElem?_mapIdx] at h
 obtain ⟨d,h1,h2⟩:=rO h
 exact ⟨d,h1,h2.symm⟩
theorem IT.Dp {es:List QR}{k:Nat}{p np pos:Rd}{e:QR}{ds:List D}{own:Bool}(he:SE X n sc e ρ b (.list ds) af ao) (hk:autoParam (sc.names.lookup ("enumerate":Qy)=some .globalImplicit) bG)
  (cv:autoParam (∀ env,QS [e] env=[(false,eval e env)]) cw):IT X n sc own (.Tuple es k p) (.Call (.Name "enumerate" np) [e] [] pos) ρ b ((dF ds).map D.tup) af ao:=fun A f g o s Q E R aY F q=>by
 refine b5 (T:="enumerate") (ds:=[.list ds]) av R aY F (au he aF (fun env=>by rw [cv];rfl)) hk av (fun env=>⟨_,_,by rw [cv];rfl,rfl⟩) fun vs aE aN ah aA aP r=>?_
 obtain ⟨_,rfl,r1⟩:=r.wi
 obtain ⟨a,ob,vs,m,rfl,h1,h2,h3,hr⟩:=r1.dp
 have hL:ah.heap.IsList a vs.toArray:=⟨ob,aA.bf _ _ h1,h2,m,h3⟩
 refine call_enumerate_list hL fun h' hE hI hz kk=>?_
 have Fu:ah.heap.get? ah.heap.objs.size=none:=get_none (QV _)
 have sg:ah.heap.get? (ah.heap.objs.size+1)=none:=get_none (Tv _)
 have Aw:ah.heap.objs.size+1≠ah.heap.objs.size:=by exact @Cu _
 generalize ah.heap.objs.size+1=e' at hE sg Aw ⊢
 generalize ah.heap.objs.size=it at hE hI Fu Aw ⊢
 have OC:∃ o,ah.heap.get? a=some o:=⟨_,aA.bf _ _ h1⟩
 have Ms:∀ c,ah.heap.get? c=none→a≠c:=fun c hc z=>by obtain ⟨o,q⟩:=OC;rw [z,hc] at q;cases q
 have W:=WalksT.enumerate (prog:=X.prog) (w:=X.w) (A:=A) R.1 e' it a Aw (Ms _ sg) (Ms _ Fu) vs.toArray
 have hlen:(dF ds).length=vs.toArray.size:=by rw [gb,QH,hr.length]
 refine Tw hE ?_
 obtain ⟨aM,aO,lx,lH⟩:=gv (own:=own) (fp:=[e',it,a]) (wr:=[e',it]) (tk:=ah.toks) aA aP kk (fun c hc=>by
  rcases bS hc with rfl|hc
  ·exact sg
  ·cases bq hc;exact Fu) (fun c hc=>by
  rcases bS hc with rfl|hc
  ·exact ⟨_,hE⟩
  ·cases bq hc
   obtain ⟨o,q,_⟩:=hI
   exact ⟨_,q⟩) (fun c hc=>by
  rcases bS hc with rfl|hc
  ·exact .inl QB
  ·rcases bS hc with rfl|hc
   ·exact .inl (QD _ QB)
   ·cases bq hc
    exact .inr (.inl (by rw [h1];exact fun z=>nomatch z)))
 refine q _ _ _ _ _ _ _ _ aM aO (Src.nP (hlen▸W) (fun i h st c hc=>?_) fun i vals l g hP hl hg=>?_) ⟨⟨_,hE⟩,hI,hL.at fun o x=>kk _ o x⟩ lx lH
 ·obtain ⟨⟨old,q1⟩,⟨o,q2,_⟩,_⟩:=st
  rcases bS hc with rfl|hc
  ·exact ⟨_,q1⟩
  ·cases bq hc;exact ⟨_,q2⟩
 ·obtain ⟨t,x,hx,rfl⟩:=hP
  obtain ⟨d,hd,rfl⟩:=jU hl
  rw [Ri] at hx
  obtain ⟨u,k1,k2⟩:=hr.get hd
  cases ig hx k1
  exact .cons (.int _ _) (.cons (k2.mono hg) .nil)
theorem IT.ID {es:List QR}{k:Nat}{p np pos:Rd}{e:QR}{bs:Array UInt8}{own:Bool}(he:SE X n sc e ρ b (.bytes bs) af ao) (hk:autoParam (sc.names.lookup ("enumerate":Qy)=some .globalImplicit) bG)
  (cv:autoParam (∀ env,QS [e] env=[(false,eval e env)]) cw):IT X n sc own (.Tuple es k p) (.Call (.Name "enumerate" np) [e] [] pos) ρ b ((dF (bs.toList.map fun (c:UInt8)=>D.int (c.toNat:Int))).map D.tup) af ao:=fun A f g o s Q E R aY F q=>by
 refine b5 (T:="enumerate") (ds:=[.bytes bs]) av R aY F (au he aF (fun env=>by rw [cv];rfl)) hk av (fun env=>⟨_,_,by rw [cv];rfl,rfl⟩) fun vs aE aN ah aA aP r=>?_
 obtain ⟨_,rfl,r1⟩:=r.wi
 obtain ⟨t,rfl⟩:=r1.fA
 refine jJ fun h' hE hI kk=>?_
 have Fu:ah.heap.get? ah.heap.objs.size=none:=get_none (QV _)
 have sg:ah.heap.get? (ah.heap.objs.size+1)=none:=get_none (Tv _)
 have Aw:ah.heap.objs.size+1≠ah.heap.objs.size:=by exact @Cu _
 generalize ah.heap.objs.size+1=e' at hE sg Aw ⊢
 generalize ah.heap.objs.size=it at hE hI Fu Aw ⊢
 have W:=tn (prog:=X.prog) (w:=X.w) (A:=A) R.1 e' it Aw bs t
 have hlen:(dF (bs.toList.map fun (c:UInt8)=>D.int (c.toNat:Int))).length=bs.size:=by rw [gb];simp
 refine Tw hE ?_
 obtain ⟨aM,aO,lx,lH⟩:=gv (own:=own) (fp:=[e',it]) (wr:=[e',it]) (tk:=ah.toks) aA aP kk (fun c hc=>by
  rcases bS hc with rfl|hc
  ·exact sg
  ·cases bq hc;exact Fu) (fun c hc=>by
  rcases bS hc with rfl|hc
  ·exact ⟨_,hE⟩
  ·cases bq hc
   obtain ⟨o,q,_⟩:=hI
   exact ⟨_,q⟩) (fun c hc=>.inl hc)
 refine q _ _ _ _ _ _ _ _ aM aO (Src.nP (hlen▸W) (fun i h st c hc=>?_) fun i vals l g hP hl hg=>?_) ⟨⟨_,hE⟩,hI⟩ lx lH
 ·obtain ⟨⟨old,q1⟩,o,q2,_⟩:=st
  rcases bS hc with rfl|hc
  ·exact ⟨_,q1⟩
  ·cases bq hc;exact ⟨_,q2⟩
 ·obtain ⟨u,v,c,hx,rfl⟩:=hP
  obtain ⟨d,hd,rfl⟩:=jU hl
  rw [QU,Rx,hx] at hd
  cases hd
  exact .cons (.int _ _) (.cons (.int _ _) .nil)
theorem IT.zip {es:List QR}{k:Nat}{p np pos:Rd}{jd Bp:QR}{xs ys:List D}{own:Bool}(gE:rh X n sc [jd,Bp] ρ b [.list xs,.list ys] af ao) (hk:autoParam (sc.names.lookup ("zip":Qy)=some .globalImplicit) bG)
  (cv:autoParam (∀ env,QS [jd,Bp] env=[(false,eval jd env),(false,eval Bp env)]) cw):IT X n sc own (.Tuple es k p) (.Call (.Name "zip" np) [jd,Bp] [] pos) ρ b ((zipWith (fun x y=>[x,y]) xs ys).map D.tup) af ao:=fun A f g o s Q E R aY F q=>by
 refine b5 (T:="zip") av R aY F gE hk av (fun env=>⟨_,_,by rw [cv];rfl,rfl⟩) fun vs aE aN ah aA aP r=>?_
 obtain ⟨_,_,rfl,r1,r2⟩:=r.JS
 obtain ⟨l1,J5,JR,m1,rfl,a1,a2,a3,MS⟩:=r1.dp
 obtain ⟨l2,mv,JQ,m2,rfl,c1,c2,c3,MR⟩:=r2.dp
 have Nn:ah.heap.IsList l1 JR.toArray:=⟨J5,aA.bf _ _ a1,a2,m1,a3⟩
 have Il:ah.heap.IsList l2 JQ.toArray:=⟨mv,aA.bf _ _ c1,c2,m2,c3⟩
 refine call_zip_2 Nn Il fun h' hZ Ng Nf Nq FG hz kk=>?_
 have hn:∀ j,ah.heap.get? (ah.heap.objs.size+j)=none:=fun j=>get_none (Sn _ _)
 have Jc:∀ (l:Qt) j,(∃ o,ah.heap.get? l=some o)→l≠ah.heap.objs.size+j:=fun l j ⟨o,q⟩ z=>by rw [z,hn] at q;cases q
 have e1:∃ o,ah.heap.get? l1=some o:=⟨_,aA.bf _ _ a1⟩
 have e2:∃ o,ah.heap.get? l2=some o:=⟨_,aA.bf _ _ c1⟩
 have D:ZipApart (ah.heap.objs.size+4) (ah.heap.objs.size+2) (ah.heap.objs.size+3) ah.heap.objs.size (ah.heap.objs.size+1) l1 l2:=by
  constructor<;>first|(show @Ne Nat _ _;(first|exact @GP _|exact @GO _|exact @GN _|exact @GL _|exact @GK _|exact @GJ _|exact @GI _|exact @GH _|exact @GG _))|exact Jc _ _ e1|exact Jc _ _ e2|exact Jc _ 0 e1|exact Jc _ 0 e2
 have W:=WalksT.zip2 (prog:=X.prog) (w:=X.w) (A:=A) R.1 _ _ _ _ _ _ _ D JR.toArray JQ.toArray
 have hlen:(zipWith (fun x y=>[x,y]) xs ys).length=min JR.toArray.size JQ.toArray.size:=by rw [List.length_zipWith,QH,QH,MS.length,MR.length]
 refine wpAny_pyIter_zip hZ ?_
 obtain ⟨aM,aO,lx,lH⟩:=gv (own:=own) (fp:=[ah.heap.objs.size+4,ah.heap.objs.size+2,ah.heap.objs.size+3,ah.heap.objs.size,ah.heap.objs.size+1,l1,l2]) (wr:=[ah.heap.objs.size+4,ah.heap.objs.size+2,ah.heap.objs.size+3,ah.heap.objs.size,ah.heap.objs.size+1]) (tk:=ah.toks) aA aP kk (gU (hn 4) (gU (hn 2) (gU (hn 3) (gU (hn 0) (gU (hn 1) AA)))))
  (gU ⟨_,hZ⟩ (gU ⟨_,Ng⟩ (gU ⟨_,Nf⟩ (gU (Nq.imp fun _ q=>q.1) (gU (FG.imp fun _ q=>q.1) AA)))))
  (gU (.inl (.head _)) (gU (.inl in1) (gU (.inl Dd) (gU (.inl Bb) (gU (.inl in4) (gU (.inr (.inl (by rw [a1];exact fun z=>nomatch z))) (gU (.inr (.inl (by rw [c1];exact fun z=>nomatch z))) AA)))))))
 refine q _ _ _ _ _ _ _ _ aM aO (Src.grow (Src.nP (hlen▸W) (fun i h st=>?_) fun i vals l g hP hl hg=>?_) (gU (.head _) (gU Dd (gU Bb (gU in4 AA)))) (gU (.head _) (gU in1 (gU Dd (gU Bb (gU in4 AA))))) fun i h st=>?_) ⟨hZ,Ng,⟨_,_,Nf⟩,Nq,FG,Nn.at fun o x=>kk _ o x,Il.at fun o x=>kk _ o x⟩ lx lH
 ·obtain ⟨q1,q2,⟨_,_,q3⟩,⟨_,q4,_⟩,⟨_,q5,_⟩,_⟩:=st
  exact gU ⟨_,q1⟩ (gU ⟨_,q3⟩ (gU ⟨_,q4⟩ (gU ⟨_,q5⟩ AA)))
 ·obtain ⟨x,y,hx,hy,rfl⟩:=hP
  rw [Ri] at hx hy
  obtain ⟨d1,d2,z1,z2,rfl⟩:=List.getElem?_zipWith_eq_some.mp hl
  obtain ⟨u,k1,k2⟩:=MS.get z1
  obtain ⟨u',k3,k4⟩:=MR.get z2
  cases ig hx k1
  cases ig hy k3
  exact .cons (k2.mono hg) (.cons (k4.mono hg) .nil)
 ·obtain ⟨q1,q2,⟨_,_,q3⟩,⟨_,q4,_⟩,⟨_,q5,_⟩,_⟩:=st
  exact gU ⟨_,q1⟩ (gU ⟨_,q2⟩ (gU ⟨_,q3⟩ (gU ⟨_,q4⟩ (gU ⟨_,q5⟩ AA))))
end
section
variable {X:Cx}{n:Nat}{sc:QM}{ρ af ay cN:Rw}{b ao b₂ eb:Array UInt8}
theorem ui {e:QR}{pos:Rd}(cv:∀ env,QS [e] env=[(false,eval e env)]):∀ env,∃ t rest,backTo pos (QS [e] env)=(false,t)::rest∧rest.any (·.1)=false:=fun env=>⟨_,_,by rw [cv];rfl,rfl⟩
theorem SE.sU {x:Qy}{T:String}{np pos:Rd}{e:QR}{d r:D}(hb:(x,Qr.builtin T)∈sT) (he:SE X n sc e ρ b d af ao)
  (Bf:∀ (A:QE) (f:FD) (g:GM) (o:Qy→List Qt) (s:Qs) (Q:Qr→Qs→Prop) (E:Qr→Qs→Prop) (v:Qr),cG A n→FR X.B X.V A f g o af ao s→Rep g X.V.obj v d →
   (∀ v g' o' s',FR X.B X.V A f g' o' af ao s'→bK X.V A f g o s g' o' s'→Rep g' X.V.obj v r→Q v s')→QF (QJ X.prog X.w) A (PySem.call (.builtin T) [v]) Q E s)
  (hk:sc.names.lookup x=some .globalImplicit) (hn:okN x=true) (cv:∀ env,QS [e] env=[(false,eval e env)]):SE X n sc (.Call (.Name x np) [e] [] pos) ρ b r af ao:=fun A f g o s Q E R aY F q=>by
 refine j8 hb R aY F (au he aF (fun env=>by rw [cv];rfl)) hk hn (ui cv) fun vs aE aN ah aA aP r=>?_
 obtain ⟨_,rfl,r1⟩:=r.wi
 exact Bf A f aE aN ah Q E _ R aA r1 fun v g' o' s' F' S' r'=>q v g' o' s' F' (aP.trans S') r'
theorem SE.nY {np pos:Rd}{e:QR}{ds:List D}(he:SE X n sc e ρ b (.list ds) af ao) (hz:ds.length≤1000000) (hk:autoParam (sc.names.lookup ("len":Qy)=some .globalImplicit) bG) (cv:autoParam (∀ env,QS [e] env=[(false,eval e env)]) cw):SE X n sc (.Call (.Name "len" np) [e] [] pos) ρ b (.int (ds.length:Int)) af ao :=
 SE.sU (T:="len") av he (fun A f g o s Q E v R F r q=>by
  obtain ⟨a,ob,vs,m,rfl,h1,h2,h3,h4⟩:=r.dp
  have hl:=h4.length
  refine call_len_list (items:=vs.toArray) ⟨ob,F.bf _ _ h1,h2,m,h3⟩ (by rw [QH,hl];exact (cS (ag (aq aa (ae 1000000)) (ag (aH aj aa) (cU (aL aa) (aJ (2 ^ 63)))))) hz hl) ?_
  rw [QH,hl]
  obtain ⟨F',S'⟩:=F.tok (s.toks+1+1)
  exact q _ g o _ F' S' (.int _ _)) hk av cv
theorem SE.pd {np pos:Rd}{e:QR}{bs:Array UInt8}(he:SE X n sc e ρ b (.bytes bs) af ao) (hz:bs.size≤1099511627776) (hk:autoParam (sc.names.lookup ("len":Qy)=some .globalImplicit) bG) (cv:autoParam (∀ env,QS [e] env=[(false,eval e env)]) cw):SE X n sc (.Call (.Name "len" np) [e] [] pos) ρ b (.int (bs.size:Int)) af ao :=
 SE.sU (T:="len") av he (fun A f g o s Q E v R F r q=>by
  obtain ⟨t,rfl⟩:=r.fA
  obtain ⟨F',S'⟩:=F.tok (s.toks+1+1)
  exact len_bytes hz (q _ g o _ F' S' (.int _ _))) hk av cv
theorem SE.ord {np pos:Rd}{e:QR}{c:Nat}(he:SE X n sc e ρ b (.str ⟨#[c]⟩) af ao) (hk:autoParam (sc.names.lookup ("ord":Qy)=some .globalImplicit) bG) (cv:autoParam (∀ env,QS [e] env=[(false,eval e env)]) cw):SE X n sc (.Call (.Name "ord" np) [e] [] pos) ρ b (.int (c:Int)) af ao :=
 SE.sU (T:="ord") av he (fun A f g o s Q E v R F r q=>by
  obtain ⟨t,rfl⟩:=r.j9
  obtain ⟨F',S'⟩:=F.tok (s.toks+1)
  exact P.ord_of_char (q _ g o _ F' S' (.int _ _))) hk av cv
theorem SE.chr {np pos:Rd}{e:QR}{i:Int}(he:SE X n sc e ρ b (.int i) af ao) (h0:0≤i) (h1:i≤1114111) (hk:autoParam (sc.names.lookup ("chr":Qy)=some .globalImplicit) bG) (cv:autoParam (∀ env,QS [e] env=[(false,eval e env)]) cw):SE X n sc (.Call (.Name "chr" np) [e] [] pos) ρ b (.str ⟨#[i.toNat]⟩) af ao :=
 SE.sU (T:="chr") av he (fun A f g o s Q E v R F r q=>by
  obtain ⟨t,rfl⟩:=r.bZ
  obtain ⟨F',S'⟩:=F.tok (s.toks+1)
  refine P.chr_of_int ?_ (q _ g o _ F' S' (.str _ _))
  rw [Bool.or_eq_false_iff]
  exact ⟨decide_eq_false ((wb (ag (bM (aJ 0) bc) (ag (bM bc (aJ 1114111)) (bI (cU bc (aJ 0)))))) h0 h1),decide_eq_false (by show ¬ i > 1114111;exact (wb (ag (bM (aJ 0) bc) (ag (bM bc (aJ 1114111)) (bI (cU (aJ 1114111) bc))))) h0 h1)⟩) hk av cv
theorem FR.y7 {A:QE}{f:FD}{g:GM}{o:Qy→List Qt}{s:Qs}{h₁ h':QL}{tk:Nat}{ws:List Qt}(F:FR X.B X.V A f g o ρ b s) (k1:∀ a ob,s.heap.get? a=some ob→h₁.get? a=some ob) (hw:∀ a∈ws,s.heap.get? a=none) (k2:∀ a ob,a∉ws→h₁.get? a=some ob→h'.get? a=some ob) :
  FR X.B X.V A f g o ρ b ⟨h',s.gens,s.drawn,tk,s.os⟩∧bK X.V A f g o s g o ⟨h',s.gens,s.drawn,tk,s.os⟩ :=
 F.keeps (tk:=tk) (dr:=s.drawn) fun a ob e=>k2 a ob (fun h=>by exact dP (hw a h) e) (k1 a ob e)
theorem SE.all {np pos:Rd}{e:QR}{ts:List Bool}(he:SE X (n+1) sc e ρ b (.list (ts.map D.bool)) af ao) (hk:autoParam (sc.names.lookup ("all":Qy)=some .globalImplicit) bG) (cv:autoParam (∀ env,QS [e] env=[(false,eval e env)]) cw):SE X (n+1) sc (.Call (.Name "all" np) [e] [] pos) ρ b (.bool (ts.all id)) af ao :=
 SE.sU (T:="all") av he (fun A f g o s Q E v R F r q=>by
  obtain ⟨a,ob,vs,m,rfl,h1,h2,h3,h4⟩:=r.dp
  have hl:=h4.length
  rw [Qu] at hl
  have hL:s.heap.IsList a vs.toArray:=⟨ob,F.bf _ _ h1,h2,m,h3⟩
  refine call_all_walk (S3 hL ?_)
  have fJ:=QN (o:={ cls:=.type "list_iterator",data:=.fields #[.ref a,.int 0 0] }) s.heap rfl
  have k2:∀ c o,s.heap.get? c=some o→(s.heap.push { cls:=.type "list_iterator",data:=.fields #[.ref a,.int 0 0] }).get? c=some o:=fun c o e=>Qz _ e
  have hIn:s.heap.get? s.heap.objs.size=Option.none:=get_none (QV _)
  have cy:a≠s.heap.objs.size:=fun e=>by have:=F.bf _ _ h1;rw [e,hIn] at this;cases this
  refine ⟨_,_,_,_,_,_,fun i=>ts.getD i true,rfl,Walks.list (A:=A.in1) R.1 s.heap.objs.size a cy vs.toArray,⟨⟨_,fJ,rfl,rfl⟩,hL.at fun o e=>k2 _ o e⟩,fun i v s' Q' E' hv hq=>?_,fun h' tk j0=>?_⟩
  ·replace hv:vs.toArray[i]?=some v:=hv
   rw [Ri] at hv
   have hi:i<vs.length:=(g7 hv).1
   have hd:(ts.map D.bool)[i]?=some (.bool (ts.getD i true)):=by
    rw [QU,Qw]
    have:i<ts.length:=hl▸hi
    rw [QI this];rfl
   obtain ⟨u,k3,k4⟩:=h4.get hd
   cases ig hv k3
   cases k4
   exact Se hq
  ·obtain ⟨F',S'⟩:=F.y7 (tk:=tk) (ws:=[s.heap.objs.size]) k2 (fun c hc=>by cases bq hc;exact hIn) j0
   have e1:(range vs.toArray.size).all (fun i=>ts.getD i true)=ts.all id:=by
    rw [QH,hl,Bool.eq_iff_iff]
    simp only [R4,R8,id]
    constructor
    ·intro h x hx
     obtain ⟨j,hj,rfl⟩:=Sb hx
     have:=h j hj
     rwa [Qw,QI hj] at this
    ·intro h j hj
     rw [Qw,QI hj]
     exact h _ (SV hj)
   rw [e1]
   exact q _ g o _ F' S' (.bool _)) hk av cv
theorem rL (ns:List Int):∀ j,j≤ns.length→preSum (fun i=>ns.getD i 0) j=(ns.take j).sum:=by
 intro j
 induction j with
 | zero =>
  exact fun _=>by simp [preSum]
 | succ j bA =>
  intro h
  have hj:j<ns.length:=h
  rw [preSum,bA (R9 hj),List.take_add_one,Qw,QI hj,List.sum_append]
  simp
theorem SE.sum {np pos:Rd}{e:QR}{ns:List Int}(he:SE X n sc e ρ b (.list (ns.map D.int)) af ao) (hk:autoParam (sc.names.lookup ("sum":Qy)=some .globalImplicit) bG) (cv:autoParam (∀ env,QS [e] env=[(false,eval e env)]) cw):SE X n sc (.Call (.Name "sum" np) [e] [] pos) ρ b (.int ns.sum) af ao :=
 SE.sU (T:="sum") av he (fun A f g o s Q E v R F r q=>by
  obtain ⟨a,ob,vs,m,rfl,h1,h2,h3,h4⟩:=r.dp
  have hl:=h4.length
  rw [Qu] at hl
  have hL:s.heap.IsList a vs.toArray:=⟨ob,F.bf _ _ h1,h2,m,h3⟩
  refine call_sum_walkAnyS (S3 hL ?_)
  have fJ:=QN (o:={ cls:=.type "list_iterator",data:=.fields #[.ref a,.int 0 0] }) s.heap rfl
  have k2:∀ c o,s.heap.get? c=some o→(s.heap.push { cls:=.type "list_iterator",data:=.fields #[.ref a,.int 0 0] }).get? c=some o:=fun c o e=>Qz _ e
  have hIn:s.heap.get? s.heap.objs.size=Option.none:=get_none (QV _)
  have cy:a≠s.heap.objs.size:=fun e=>by have:=F.bf _ _ h1;rw [e,hIn] at this;cases this
  refine ⟨_,_,_,_,_,_,_,fun i=>ns.getD i 0,rfl,(Walks.list (A:=A.in1) R.1 s.heap.objs.size a cy vs.toArray).toS,⟨⟨_,fJ,rfl,rfl⟩,hL.at fun o e=>k2 _ o e⟩,fun c hc=>?_,fun i v hv=>?_,fun s' t' hm=>?_⟩
  ·rw [Su]
   rcases bS hc with rfl|hc
   ·exact SI _
   ·cases bq hc
    exact Sr (Rt (F.bf _ _ h1))
  ·replace hv:vs.toArray[i]?=some v:=hv
   rw [Ri] at hv
   have hi:i<ns.length:=hl▸(g7 hv).1
   have hd:(ns.map D.int)[i]?=some (.int (ns.getD i 0)):=by
    rw [QU,Qw,QI hi];rfl
   obtain ⟨u,k3,k4⟩:=h4.get hd
   cases ig hv k3
   cases k4
   exact ⟨_,rfl⟩
  ·obtain ⟨h',g',d',DB,os'⟩:=s'
   obtain ⟨m1,m2,m3,m4,_⟩:=hm
   dsimp only at m1 m2 m3 m4
   subst m2;subst m3;subst m4
   obtain ⟨F',S'⟩:=F.y7 (tk:=DB) (ws:=[s.heap.objs.size]) k2 (fun c hc=>by cases bq hc;exact hIn) m1
   rw [show preSum (fun i=>ns.getD i 0) vs.toArray.size=ns.sum by rw [QH,hl,rL ns _ (QV _),List.take_length]]
   exact q _ g o _ F' S' (.int _ _)) hk av cv
theorem SE.nD {value slice:QR}{pos:Rd}{d e r:D}(hv:SE X n sc value ρ b d af ao) (hi:SE X n sc slice af ao e ay b₂)
  (Bf:∀ (A:QE) (f:FD) (g:GM) (o:Qy→List Qt) (s:Qs) (Q:Qr→Qs→Prop) (E:Qr→Qs→Prop) (v u:Qr),cG A n→FR X.B X.V A f g o ay b₂ s→Rep g X.V.obj v d→Rep g X.V.obj u e →
   (∀ v g' o' s',FR X.B X.V A f g' o' ay b₂ s'→bK X.V A f g o s g' o' s'→Rep g' X.V.obj v r→Q v s')→∃ T id,s.TypeIs v T∧typeLookup (.type T) "__getitem__"=pure (some (.builtin id))∧QF (QJ X.prog X.w) A (getItem v u) Q E s)
  (hs:autoParam (∀ o i,∃ ops,subscripted slice false o i=operate ops (getItem o i)) DD):SE X n sc (.Subscript value slice pos) ρ b r ay b₂:=fun A f g o s Q E R aY F q=>by
 rw [T4]
 refine Qq (hv A f g o s _ E R aY F fun v aE aN ah aA aP aW=>Qq (Q0 (hi A f aE aN ah _ E R aY aA fun u bl cx bk aM aO bt=>Qq (Q2 ?_))))
 obtain ⟨T,id,hT,hl,hg⟩:=Bf A f bl cx bk Q E v u R aM (aW.mono aO.gm) bt fun w gO kn b4 cA cO qu=>q w gO kn b4 cA (aP.trans (aO.trans cO)) qu
 obtain ⟨ops,ho⟩:=hs v u
 exact Vm (value:=value) (slice:=slice) hT hl hg ho
theorem SE.r8 {value slice:QR}{pos:Rd}{bs:Array UInt8}{i:Int}(hv:SE X n sc value ρ b (.bytes bs) af ao) (hi:SE X n sc slice af ao (.int i) ay b₂) (hz:bs.size≤1099511627776) (h0:0≤i) (h1:i<bs.size)
  (hs:autoParam (∀ o i,∃ ops,subscripted slice false o i=operate ops (getItem o i)) DD):SE X n sc (.Subscript value slice pos) ρ b (.int ((bs.toList.getD i.toNat 0).toNat:Int)) ay b₂ :=
 SE.nD hv hi (fun A f g o s Q E v u R F aW bt q=>by
  obtain ⟨t,rfl⟩:=aW.fA
  obtain ⟨ti,rfl⟩:=bt.bZ
  refine ⟨"bytes",_,Ur _ _ _,FB.slot_bytes_getitem.lookup,?_⟩
  have e:bs.toList.toArray=bs:=Array.toArray_toList
  obtain ⟨F',S'⟩:=F.tok (s.toks+1)
  have:=getItem_bytes (prog:=X.prog) (w:=X.w) (A:=A) (E:=E) (s:=s) (t:=t) (u:=ti) (l:=bs.toList) (i:=i) (Q:=Q) (by simpa using hz) h0 (by simpa using h1) (q _ g o _ F' S' (.int _ _))
  rwa [e] at this) hs
theorem SE.gA {value slice:QR}{pos:Rd}{ds:List D}{i:Int}{d:D}(hv:SE X n sc value ρ b (.list ds) af ao) (hi:SE X n sc slice af ao (.int i) ay b₂) (h0:0≤i) (h1:i<2 ^ 63) (hd:ds[i.toNat]?=some d)
  (hs:autoParam (∀ o i,∃ ops,subscripted slice false o i=operate ops (getItem o i)) DD):SE X n sc (.Subscript value slice pos) ρ b d ay b₂ :=
 SE.nD hv hi (fun A f g o s Q E v u R F aW bt q=>by
  obtain ⟨a,ob,vs,m,rfl,k1,k2,k3,k4⟩:=aW.dp
  obtain ⟨ti,rfl⟩:=bt.bZ
  have hL:s.heap.IsList a vs.toArray:=⟨ob,F.bf _ _ k1,k2,m,k3⟩
  obtain ⟨x,e1,e2⟩:=k4.get hd
  exact ⟨"list",_,hL.typeIs,Tx.lookup,Ui hL h0 h1 (by rw [Ri];exact e1) (q x g o s F .refl e2)⟩) hs
theorem SE.n5 {value slice:QR}{pos:Rd}{ds:List D}{i:Int}{d:D}(hv:SE X n sc value ρ b (.tup ds) af ao) (hi:SE X n sc slice af ao (.int i) ay b₂) (h0:0≤i) (h1:i<2 ^ 63) (hd:ds[i.toNat]?=some d)
  (hs:autoParam (∀ o i,∃ ops,subscripted slice false o i=operate ops (getItem o i)) DD):SE X n sc (.Subscript value slice pos) ρ b d ay b₂ :=
 SE.nD hv hi (fun A f g o s Q E v u R F aW bt q=>by
  obtain ⟨a,ob,vs,m,rfl,k1,k2,k3,k4⟩:=aW.uZ
  obtain ⟨ti,rfl⟩:=bt.bZ
  have hT:IsTup s.heap a vs.toArray:=⟨ob,F.bf _ _ k1,k2,m,k3⟩
  obtain ⟨x,e1,e2⟩:=k4.get hd
  have fE:i.toNat<vs.length:=(g7 e1).1
  refine ⟨"tuple",_,hT.typeIs,slot_tuple_getitem.lookup,getItem_tuple (j:=i.toNat) hT ((wb (ag (bM (aJ 0) bc) (ag (cU bc (aJ (2 ^ 63))) (bM (xN (aJ (2 ^ 63))) bc)))) h0 h1) h1 ?_ (by rw [Ri];exact e1) (q x g o s F .refl e2)⟩
  exact seqIndex_of h0 ((Int.toNat_lt h0).mp fE)) hs
end
inductive AE (X:Cx) (n:Nat) (sc:QM):Option QR→Rw→Array UInt8→Option Int→Rw→Array UInt8→Prop
 | none {ρ:Rw}{b:Array UInt8}:AE X n sc none ρ b none ρ b
 | some {e:QR}{ρ ρ':Rw}{b b':Array UInt8}{i:Int}:SE X n sc e ρ b (.int i) ρ' b'→AE X n sc (some e) ρ b (some i) ρ' b'
section
variable {X:Cx}{n:Nat}{sc:QM}{ρ af ay cN:Rw}{b ao b₂ eb:Array UInt8}
theorem AE.run {x:Option QR}{k:Option Int}(h:AE X n sc x ρ b k af ao) (A:QE) (f:FD) (g:GM) (o:Qy→List Qt) (s:Qs) (Q:Qr→Qs→Prop) (E:Qr→Qs→Prop) (R:cG A n) (aY:f.env.scope=sc) (F:FR X.B X.V A f g o ρ b s)
  (q:∀ v g' o' s',FR X.B X.V A f g' o' af ao s'→bK X.V A f g o s g' o' s'→IsPart v k→Q v s'):QF (QJ X.prog X.w) A (evalPart x f.env) Q E s:=by
 cases h with
 | none=>exact Qv (q _ g o s F .refl .none)
 | some h=>exact h A f g o s Q E R aY F fun v g' o' s' F' S' r=>by obtain ⟨_,rfl⟩:=r.bZ;exact q _ g' o' s' F' S' (.int _ _)
theorem SE.Mk {value:QR}{lo hi:Option QR}{p pos:Rd}{i j:Option Int}{d r:D}(hv:SE X n sc value ρ b d af ao) (hl:AE X n sc lo af ao i ay b₂) (hu:AE X n sc hi ay b₂ j cN eb)
  (Bf:∀ (A:QE) (f:FD) (g:GM) (o:Qy→List Qt) (s:Qs) (Q:Qr→Qs→Prop) (E:Qr→Qs→Prop) (v sl l u:Qr),cG A n→FR X.B X.V A f g o cN eb s→Rep g X.V.obj v d→(∃ a,sl=.ref a∧s.heap.IsSliceOf a l u .none)→IsPart l i→IsPart u j →
   (∀ v g' o' s',FR X.B X.V A f g' o' cN eb s'→bK X.V A f g o s g' o' s'→Rep g' X.V.obj v r→Q v s')→∃ T id,s.TypeIs v T∧typeLookup (.type T) "__getitem__"=pure (some (.builtin id))∧QF (QJ X.prog X.w) A (getItem v sl) Q E s) :
  SE X n sc (.Subscript value (.Slice lo hi Option.none p) pos) ρ b r cN eb:=fun A f g o s Q E R aY F q=>by
 rw [T4]
 refine Qq (hv A f g o s _ E R aY F fun v aE aN ah aA aP aW=>Qq (Q0 (wpAny_Slice (hl.run A f aE aN ah _ E R aY aA fun l bl cx bk aM aO bt=>hu.run A f bl cx bk _ E R aY aM fun u gO kn b4 cA cO qu=>Qv (Qq (Q2 ?_))))))
 obtain ⟨fz,fS⟩:=cA.keeps (h':=b4.heap.push { cls:=.type "slice",data:=.fields #[l,u,.none] }) (tk:=b4.toks) (dr:=b4.drawn) fun a ob e=>Qz _ e
 obtain ⟨T,id,hT,hl,hg⟩:=Bf A f gO kn ⟨_,b4.gens,b4.drawn,b4.toks,b4.os⟩ Q E v (.ref b4.heap.objs.size) l u R fz (aW.mono fun a ob e=>cO.gm a ob (aO.gm a ob e)) ⟨_,rfl,QL.IsSliceOf.new _ _ _ _⟩ bt qu fun w j5 kP fR l9 kB JY=>q w j5 kP fR l9 (aP.trans (aO.trans (cO.trans (fS.trans kB)))) JY
 exact Vm (value:=value) (slice:=.Slice lo hi Option.none p) (ops:=[.ref b4.heap.objs.size,v]) hT hl hg rfl
theorem SE.o7 {value:QR}{lo hi:Option QR}{p pos:Rd}{i j:Option Int}{bs:Array UInt8}(hv:SE X n sc value ρ b (.bytes bs) af ao) (hl:AE X n sc lo af ao i ay b₂) (hu:AE X n sc hi ay b₂ j cN eb) (hz:bs.size≤1000000) :
  SE X n sc (.Subscript value (.Slice lo hi Option.none p) pos) ρ b (.bytes (KBy.picked bs i j)) cN eb :=
 SE.Mk hv hl hu fun A f g o s Q E v sl l u R F r hs pl pu q=>by
  obtain ⟨a,rfl,Ej⟩:=hs
  obtain ⟨t,rfl⟩:=r.fA
  refine ⟨"bytes",_,Ur _ _ _,FB.slot_bytes_getitem.lookup,getItem_meets (Ur _ _ _) av FB.slot_bytes_getitem FB.entry_bytes_getitem (FB.args_bytes_getitem_2 _ _) (KBc.meets_slice2 bs t a pl pu) ⟨Ej,?_,fun t' k=>?_⟩⟩
  ·exact Qx (KBc.size_picked_le bs i j) (Qx hz av)
  ·obtain ⟨F',S'⟩:=F.tok k
   exact q _ g o _ F' S' (.bytes _ _)
noncomputable def lN {α:Type}(ds:List α) (lo hi:Option Int):List α:=(ds.drop (lo.elim 0 (clipAt ds.length))).take (hi.elim ds.length (clipAt ds.length)-lo.elim 0 (clipAt ds.length))
theorem SE.DH {value:QR}{lo hi:Option QR}{p pos:Rd}{i j:Option Int}{ds:List D}(hv:SE X n sc value ρ b (.list ds) af ao) (hl:AE X n sc lo af ao i ay b₂) (hu:AE X n sc hi ay b₂ j cN eb) (hz:ds.length≤1000000) :
  SE X n sc (.Subscript value (.Slice lo hi Option.none p) pos) ρ b (.list (lN ds i j)) cN eb :=
 SE.Mk hv hl hu fun A f g o s Q E v sl l u R F r hs pl pu q=>by
  obtain ⟨a,rfl,Ej⟩:=hs
  obtain ⟨c,ob,vs,m,rfl,h1,h2,h3,h4⟩:=r.dp
  have hL:s.heap.IsList c vs.toArray:=⟨ob,F.bf _ _ h1,h2,m,h3⟩
  refine ⟨"list",_,hL.typeIs,Tx.lookup,wpAny_getItem_list_slice hL Ej pl pu .none (fun z=>nomatch z) ?_ (by rw [QH,h4.length];exact Qx hz av)⟩
  obtain ⟨F',S'⟩:=F.fresh (h':=s.heap.push { cls:=.type "list",data:=.seq (slicePick vs.toArray i j Option.none) }) (tk:=s.toks) (dr:=s.drawn) (fun a ob e=>Qz _ e) (get_none (QV _)) (QN s.heap rfl)
  have e:slicePick vs.toArray i j Option.none=(lN vs i j).toArray:=by rw [slicePick_plain];simp [lN]
  have rr:aB g X.V.obj (lN vs i j) (lN ds i j):=by
   unfold lN
   rw [h4.length]
   exact (h4.drop _).take _
  exact q _ _ o _ F' S' (.list (vs:=lN vs i j) GM.b7 rfl (by rw [e]) (rr.mono S'.gm))
theorem SE.iB {l r:QR}{pos:Rd}{ds es:List D}(hl:SE X n sc l ρ b (.list ds) af ao) (hr:SE X n sc r af ao (.list es) ay b₂) (hz:ds.length+es.length≤1000000):SE X n sc (.BinOp l .Add r pos) ρ b (.list (ds++es)) ay b₂ :=
 SE.bin hl hr fun A f g o s Q E v u R F aW bt q=>by
  obtain ⟨a,ob,vs,m,rfl,h1,h2,h3,h4⟩:=aW.dp
  obtain ⟨c,oc,ws,m',rfl,k1,k2,k3,k4⟩:=bt.dp
  obtain ⟨cls,dd,data,sl⟩:=ob
  obtain ⟨PM,LW,data2,JW⟩:=oc
  simp only at h2 h3 k2 k3
  subst h2 h3 k2 k3
  have e:vs.toArray++ws.toArray=(vs++ws).toArray:=by simp
  refine concat_meets ⟨_,F.bf _ _ h1,rfl⟩ ⟨_,F.bf _ _ k1,rfl⟩ noFill_list_add seq_list_add PySem.F.slot_list_add PySem.F.entry_list_add (PySem.F.args_list_add_2 _ _)
   (list_addW a c vs.toArray ws.toArray m m' dd LW sl JW (by rw [QH,QH,h4.length,k4.length];exact Qx hz av)) ⟨F.bf _ _ h1,F.bf _ _ k1,?_⟩
  rw [e]
  obtain ⟨F',S'⟩:=F.fresh (h':=s.heap.push { cls:=.type "list",data:=.seq (vs++ws).toArray }) (tk:=s.toks) (dr:=s.drawn) (fun a ob e=>Qz _ e) (get_none (QV _)) (QN s.heap rfl)
  exact q _ _ o _ F' S' (.list GM.b7 rfl rfl ((h4.append k4).mono S'.gm))
theorem SE.L2 {l r:QR}{pos:Rd}{x y:Qy}(hl:SE X n sc l ρ b (.str x) af ao) (hr:SE X n sc r af ao (.str y) ay b₂) (hx:(x.length==0)=false) (hy:(y.length==0)=false) (hz:(x++y).length≤1000000):SE X n sc (.BinOp l .Add r pos) ρ b (.str (x++y)) ay b₂ :=
 SE.bin hl hr fun A f g o s Q E v u R F aW bt q=>by
  obtain ⟨t,rfl⟩:=aW.j9
  obtain ⟨t',rfl⟩:=bt.j9
  refine PySem.P.add_str ?_
  rw [hx,hy]
  obtain ⟨F',S'⟩:=F.tok (s.toks+1)
  exact ⟨Qx hz av,q _ g o _ F' S' (.str _ _)⟩
theorem sR {g:GM}{vw:Nat→Option Qt}{vs:List Qr}{ns:List Int}(h:aB g vw vs (ns.map D.int)):IntsAre vs ns:=by
 induction ns generalizing vs with
 | nil=>cases h;exact .nil
 | cons n ns ih =>
  obtain ⟨_,_,rfl,r1,r2⟩:=h.jl
  obtain ⟨_,rfl⟩:=r1.bZ
  exact .cons _ _ (ih r2)
theorem SE.EW {np pos:Rd}{e:QR}{ns:List Int}(he:SE X n sc e ρ b (.list (ns.map D.int)) af ao) (hr:∀ k∈ns,0≤k∧k<256) (hz:ns.length≤1000000) (hk:autoParam (sc.names.lookup ("bytes":Qy)=some .globalImplicit) bG) (cv:autoParam (∀ env,QS [e] env=[(false,eval e env)]) cw) :
  SE X n sc (.Call (.Name "bytes" np) [e] [] pos) ρ b (.bytes (byteArr ns)) af ao:=fun A f g o s Q E R aY F q=>by
 refine b5 (T:="bytes") av R aY F (au he aF (fun env=>by rw [cv];rfl)) hk av (ui cv) fun vs aE aN ah aA aP r=>?_
 obtain ⟨_,rfl,r1⟩:=r.wi
 obtain ⟨a,ob,vs,m,rfl,h1,h2,h3,h4⟩:=r1.dp
 refine call_bytes_ints (vs:=vs) (ns:=ns) ⟨ob,aA.bf _ _ h1,h2,m,h3⟩ (sR h4) hr (by rw [h4.length,Qu];exact Qx hz av) R.1 fun h' t k hk=>?_
 obtain ⟨F',S'⟩:=aA.keeps (tk:=k) (dr:=ah.drawn) hk
 exact q _ aE aN _ F' (aP.trans S') (.bytes _ _)
end
section
variable {B:QL}{V:VI}{A:QE}{f:FD}{g:GM}{o:Qy→List Qt}{ρ:Rw}{b:Array UInt8}{s:Qs}
theorem FR.tP {x:Qy}{EL e':En}{v:Qr}{h':QL}{tk:Nat}{dr:S6}(F:FR B V A f g o ρ b s) (hx:lk ρ x=some EL) (hv:cI s.heap f.env x v) (k:∀ a ob,a∉o x→a≠f.env.locals→s.heap.get? a=some ob→h'.get? a=some ob) (hL:∀ m,s.heap.Ns f.env.locals m→h'.Ns f.env.locals m) (kl:∀ a∈o x,∃ ob,h'.get? a=some ob)
  (he:lz g V.obj h' (o x) v e'):FR B V A f g o (aS ρ x e') b ⟨h',s.gens,dr,tk,s.os⟩∧bK V A f g o s g o ⟨h',s.gens,dr,tk,s.os⟩:=by
 have m9:x≠bh:=fQ F.eC hx
 have nL:∀ a,a∉f.fx→a≠f.env.locals:=fun a h z=>h (z▸F.ib)
 have gL:g f.env.locals=none:=F.f9 _ (.inl F.ib)
 have lL:∃ ob,h'.get? f.env.locals=some ob∧∃ es n,ob.data=.dict es n:=by
  obtain ⟨m,hn⟩:=F.kE
  obtain ⟨ob,es,ep,e,d,_⟩:=hL m hn
  exact ⟨ob,e,es,ep,d⟩
 have cl:∀ y c,f.env.cells.lookup y=some c→∀ ov,s.heap.IsCell c ov→h'.IsCell c ov:=fun y c hc ov ⟨ob,e,hd⟩=>⟨ob,k c ob ((F.cells y c hc).c5 x) (F.cells y c hc).c1 e,hd⟩
 have kg:∀ a ob,g a=some ob→h'.get? a=some ob:=fun a ob q=>k a ob (fun h=>by exact dP (F.f9 a (.inr (.inr ⟨x,h⟩))) q) (fun z=>by rw [z,gL] at q;cases q) (F.bf a ob q)
 have alive:∀ a ob,s.heap.get? a=some ob→∃ b0,h'.get? a=some b0:=fun a ob q=>(Decidable.em (a∈o x)).elim (kl a) fun h=>(Decidable.em (a=f.env.locals)).elim (fun e=>by subst e;exact ⟨_,lL.choose_spec.1⟩) fun e=>⟨ob,k a ob h e q⟩
 refine ⟨{ F with bC:=fun a ob q=>k a ob (fun h=>by have:=F.mB a (.inr (.inr ⟨x,h⟩));rw [q] at this;cases this) (fun z=>by have:=F.mB a (.inl (z▸F.ib));rw [q] at this;cases this) (F.bC a ob q),gens:=F.gens,bf:=kg,live:=fun a h=>?_,view:=V.fj _ _ _ F.view fun a h ob q=>k a ob (fun z=>(F.dY x a z).2 h) (fun z=>F.uu a (z▸F.ib) h) q,vars:=fun y e h=>?_,kE:=?_,cells:=fun y c hc=>?_,da:=F.da.slot fun a h ob q=>?_,eC:=by rw [bx,if_neg (Ne.symm m9)];exact F.eC,pin:=fun p hp=>(F.pin p hp).move hL (cl p.1) },
  ⟨⟨⟨fun a ob q p _=>k a ob (fun h=>p (.inr (.inr ⟨x,h⟩))) (fun z=>p (.inl (z▸F.ib))) q,fun a ob q p=>⟨ob.slots,k a ob (fun h=>p (.inr (.inr ⟨x,h⟩))) (fun z=>p (.inl (z▸F.ib))) q⟩⟩,alive,fun _ _ e=>e,fun a e e'=>absurd e e',fun y a h=>.inl ⟨y,h⟩,rfl⟩,fun a h=>⟨h,fun ob q=>k a ob (fun z=>F.cX x bh m9 a z h) (nL a (F.dY _ a h).1) q⟩,fun y v h=>h.move hL (cl y)⟩⟩
 ·obtain ⟨ob,q⟩:=F.live a h
  exact alive a ob q
 ·rw [bx] at h
  by_cases q:y=x
  ·subst q
   cases ig (if_pos rfl) h
   exact ⟨v,hv.move hL (cl y),he⟩
  ·rw [if_neg q] at h
   obtain ⟨u,h1,h2⟩:=F.vars y e h
   exact ⟨u,h1.move hL (cl y),h2.mono (fun _ _ z=>z) fun a ha ob z=>k a ob (F.cX y x q a ha) (nL a (F.dY _ a ha).1) z⟩
 ·obtain ⟨m,hn⟩:=F.kE
  exact ⟨m,hL m hn⟩
 ·have K:=F.cells y c hc
  exact { K with c2:=K.c2.elim fun v h=>⟨v,cl y c hc v h⟩ }
 ·by_cases e:a=f.env.locals
  ·subst e
   obtain ⟨b0,e1,e2⟩:=lL
   exact ⟨b0,e1,fun _=>e2⟩
  ·exact ⟨ob,k a ob (fun z=>F.ic x a z h) e q,fun h=>h⟩
theorem FR.m7 {x:Qy}{ds ds':List D}{a:Qt}{vs':List Qr}{m':Nat}{h':QL}{tk:Nat}{dr:S6}(F:FR B V A f g o ρ b s) (hx:lk ρ x=some (.own ds)) (hv:cI s.heap f.env x (.ref a)) (ho:o x=[a]) (hs:QL.SameBut a s.heap h') (hl:h'.get? a=some (listOf vs'.toArray m')) (hr:aB g V.obj vs' ds') :
  FR B V A f g o (aS ρ x (.own ds')) b ⟨h',s.gens,dr,tk,s.os⟩∧bK V A f g o s g o ⟨h',s.gens,dr,tk,s.os⟩ :=
 F.tP hx hv (fun c ob h _ q=>hs.extBut c ob (fun z=>h (by rw [ho,z];exact QO.mpr rfl)) q) (fun m hn=>hn.sameBut hs fun z=>(F.dY x a (by rw [ho];exact QO.mpr rfl)).1 (z▸F.ib)) (fun c h=>by rw [ho] at h;cases bq h;exact ⟨_,hl⟩) ⟨a,vs',m',rfl,ho,hl,hr⟩
end
theorem qD (l b:Qt) (items n4:Array Qr) (n n2:Nat) (LW:Option Qt) (JW:Array (Option Qr)) (hs:items.size+n4.size≤1000000) :
  Meets (Builtin.«list.extend» ⟨[.ref l,.ref b],[]⟩) (fun _ R s=>s.heap.get? l=some { cls:=.type "list",dict:=none,data:=.seq items n,slots:=#[] }∧s.heap.get? b=some { cls:=.type "list",dict:=LW,data:=.seq n4 n2,slots:=JW }∧R (.ok (.ret Qr.none)) { s with heap:=s.heap.update l (R3.mapSeq fun x=>x++n4),toks:=s.toks }) :=
 .of_wp fun prog w A R s h=>by
  obtain ⟨hp,g,d,tk,os⟩:=s;obtain ⟨hl,hb,h⟩:=h;have f1:=AutoSeq1.idx_int;have f2:=AutoSeq1.sub_tuple_tuple;have f3:=AutoSeq1.sub_list_list;have f4:=AutoSeq1.sub_tuple_list;have f5:=AutoSeq1.sub_list_tuple
  have Qf:¬(!items.isEmpty&&Builtin.List.listTooLong (items.size+n4.size))=true:=by simp [Builtin.List.listTooLong,sizeLine];omega
  have Ln:items.size≤sizeLine:=by rw [Rq];exact (cS (ag (aq (ak aa aj) (ae 1000000)) (aq aa (ae 16777216)))) hs
  have Kv:(items++n4).size≤sizeLine+1:=by rw [Tb,Rq];exact (cS (ag (aq (ak aa aj) (ae 1000000)) (aq (ak aa aj) (ak (ae 16777216) (ae 1))))) hs
  wp_walk using (TP hl rfl (hz:=Ln) (_hz':=Kv)),AutoSeq1.wpAny_loadPart' hl,AutoSeq1.wpAny_loadPart' hb;exact ⟨_,rfl,h⟩
theorem cI.unique {h:QL}{env:TU}{x:Qy}{v u:Qr}(a:cI h env x v) (c:cI h env x u):v=u:=by
 rcases a with ⟨k1,m,hm,hv⟩|⟨k1,d,hd,o,he,hc⟩<;>rcases c with ⟨k2,m',HN,hu⟩|⟨k2,d',oV,o',qO,Ax⟩
 ·obtain ⟨o1,e1,p1,g1,d1,_,f1⟩:=hm
  obtain ⟨o2,e2,p2,g2,d2,_,f2⟩:=HN
  cases ig g1 g2
  rw [d1] at d2;cases d2
  have:m x=m' x:=by rw [← f1,← f2]
  rw [hv,hu] at this
  exact Option.some.inj this
 ·rcases k2 with k2|k2<;>rw [k1] at k2<;>cases k2
 ·rcases k1 with k1|k1<;>rw [k1] at k2<;>cases k2
 ·cases ig hd oV
  cases ig he qO
  rw [hc] at Ax
  cases Ax
  rfl
theorem g0 (F:Array Qr→Array Qr) (eX:Array Qr) (m:Nat):∃ m',R3.mapSeq F (listOf eX m)=listOf (F eX) m':=by
 unfold R3.mapSeq
 exact ⟨_,rfl⟩
section
variable {X:Cx}{n:Nat}{sc:QM}{ρ af ay cN:Rw}{b ao b₂ eb:Array UInt8}
theorem gX {A:QE}{f:FD}{g:GM}{o:Qy→List Qt}{s:Qs}{Q:Qr→Qs→Prop}{E:Qr→Qs→Prop}{x name:Qy}{id:String}{np apos pos:Rd}{args:List QR}{ds gH:List D}{es:List D}
  (slot:Slot "list" name id) (Oc:typeOf (.builtin id)=pure (.type "method_descriptor")) (hx:lk ρ x=some (.own ds)) (fI:lk af x=some (.own gH)) (hn:okN x=true) (R:cG A n) (aY:f.env.scope=sc) (F:FR X.B X.V A f g o ρ b s) (gE:rh X n sc args ρ b es af ao)
  (dS:(apos.endLine==pos.line)=true) (qN:∀ env,((backTo pos (QS args env)).all (fun x=>!x.1)&&(backToKw pos (keywordEach [] env)).all (fun x=>x.1.isSome)&&decide (args.length+([]:List Keyword).length+(if ([]:List Keyword).isEmpty then 0 else 1)<30))=true)
  (cy:∀ env,∃ t rest,backTo pos (QS args env)=(false,t)::rest∧rest.any (·.1)=false)
  (h:∀ a vs m ws g' o' s',cI s'.heap f.env x (.ref a)→o' x=[a]→s'.heap.get? a=some (listOf vs.toArray m)→aB g' X.V.obj vs gH→FR X.B X.V A f g' o' af ao s'→bK X.V A f g o s g' o' s'→aB g' X.V.obj ws es→QF (QJ X.prog X.w) A (PySem.call (.builtin id) (.ref a::ws)) Q E s') :
  QF (QJ X.prog X.w) A (eval (.Call (.Attribute (.Name x np) name apos) args [] pos) f.env) Q E s:=by
 refine SW rfl (qN _) dS ?_
 obtain ⟨v,h1,a,vs,m,rfl,h2,h3,h4⟩:=F.vars x _ hx
 refine Rb (aV F.kind h1 (okN.d hn).2 ⟨"list",id,PySem.F.plainAttrs_list,slot,Oc,⟨_,h3,rfl⟩,fun c e=>by cases e;exact ⟨_,h3,rfl⟩,?_⟩) (okN.d hn).1
 obtain ⟨t,rest,e,hr⟩:=cy f.env
 rw [e]
 refine SJ (by show (false||rest.any (·.1))=false;rw [hr];rfl) (Rv ?_)
 rw [← e]
 refine gE pos A f g o s _ E R aY F fun ws g' o' s' F' S' r'=>?_
 obtain ⟨v',k1,k2⟩:=F'.vars x _ fI
 obtain ⟨a',vs',m',rfl,k3,k4,k5⟩:=k2
 have e2:=(S'.vk x _ h1).unique k1
 cases e2
 exact h a vs' m' ws g' o' s' k1 k3 k4 k5 F' S' r'
theorem SE.append {x:Qy}{np apos pos:Rd}{e:QR}{ds gH:List D}{d:D}(hx:lk ρ x=some (.own ds)) (he:SE X n sc e ρ b d af ao) (fI:lk af x=some (.own gH)) (hz:gH.length≤1000000) (hn:autoParam (okN x=true) bG) (dS:autoParam ((apos.endLine==pos.line)=true) bG)
  (cv:autoParam (∀ env,QS [e] env=[(false,eval e env)]) cw):SE X n sc (.Call (.Attribute (.Name x np) "append" apos) [e] [] pos) ρ b .none (aS af x (.own (gH++[d]))) ao:=fun A f g o s Q E R aY F q=>by
 refine gX (id:="list.append") PySem.F.slot_list_append PySem.F.type_list_append hx fI hn R aY F (au he aF (fun env=>by rw [cv];rfl)) dS (fun env=>by rw [cv];rfl) (ui cv) fun a vs m ws g' o' s' h1 h2 h3 h4 F' S' r=>?_
 obtain ⟨_,rfl,r1⟩:=r.wi
 refine SU (items:=vs.toArray) ⟨m,h3⟩ (fun h' hl hs=>?_) (by rw [QH,h4.length];exact Qx hz av)
 obtain ⟨m',hl⟩:=hl
 obtain ⟨aM,aO⟩:=F'.m7 (tk:=s'.toks) (dr:=s'.drawn) (vs':=vs++[_]) (m':=m') (ds':=gH++[d]) fI h1 h2 hs (by rw [hl];simp) (h4.append (.one r1))
 exact q _ g' o' _ aM (S'.trans aO) .none
theorem SE.extend {x:Qy}{np apos pos:Rd}{e:QR}{ds gH es:List D}(hx:lk ρ x=some (.own ds)) (he:SE X n sc e ρ b (.list es) af ao) (fI:lk af x=some (.own gH)) (hz:gH.length+es.length≤1000000) (hn:autoParam (okN x=true) bG) (dS:autoParam ((apos.endLine==pos.line)=true) bG)
  (cv:autoParam (∀ env,QS [e] env=[(false,eval e env)]) cw):SE X n sc (.Call (.Attribute (.Name x np) "extend" apos) [e] [] pos) ρ b .none (aS af x (.own (gH++es))) ao:=fun A f g o s Q E R aY F q=>by
 refine gX (id:="list.extend") PySem.F.slot_list_extend PySem.F.type_list_extend hx fI hn R aY F (au he aF (fun env=>by rw [cv];rfl)) dS (fun env=>by rw [cv];rfl) (ui cv) fun a vs m ws g' o' s' h1 h2 h3 h4 F' S' r=>?_
 obtain ⟨_,rfl,r1⟩:=r.wi
 obtain ⟨c,ob,us,k,rfl,k1,k2,k3,k4⟩:=r1.dp
 obtain ⟨cls,dd,data,sl⟩:=ob
 simp only at k2 k3
 subst k2 k3
 refine Uj PySem.F.slot_list_extend ⟨_,h3,rfl⟩ PySem.F.entry_list_extend (PySem.F.args_list_extend_2 _ _) (qD a c vs.toArray us.toArray m k dd sl (by rw [QH,QH,h4.length,k4.length];exact hz)) ⟨h3,F'.bf _ _ k1,?_⟩
 obtain ⟨m',e⟩:=g0 (fun x=>x++us.toArray) vs.toArray m
 have hl:=Rh (R3.mapSeq fun x=>x++us.toArray) h3 (by rw [e];rfl)
 obtain ⟨aM,aO⟩:=F'.m7 (tk:=s'.toks) (dr:=s'.drawn) (vs':=vs++us) (m':=m') (ds':=gH++es) fI h1 h2 (QL.SameBut.update ..) (by rw [hl,e];simp) (h4.append k4)
 exact q _ g' o' _ aM (S'.trans aO) .none
theorem SE.J3 {x:Qy}{np apos pos cp:Rd}{ck:Nat}{ds:List D}{d:D}(hx:lk ρ x=some (.own (d::ds))) (hz:ds.length≤1000000) (hn:autoParam (okN x=true) bG) (dS:autoParam ((apos.endLine==pos.line)=true) bG) :
  SE X n sc (.Call (.Attribute (.Name x np) "pop" apos) [.Constant (.int 0) ck cp] [] pos) ρ b d (aS ρ x (.own ds)) b:=fun A f g o s Q E R aY F q=>by
 refine gX (id:="list.pop") PySem.F.slot_list_pop PySem.F.type_list_pop hx hx hn R aY F (au aC aF) dS (fun env=>rfl) (ui fun env=>rfl) fun a vs m ws g' o' s' h1 h2 h3 h4 F' S' r=>?_
 obtain ⟨_,rfl,r1⟩:=r.wi
 obtain ⟨_,rfl⟩:=r1.bZ
 cases h4 with
 | @cons u us _ _ u1 u2 =>
  refine Uj PySem.F.slot_list_pop ⟨_,h3,rfl⟩ PySem.F.entry_list_pop (PySem.F.args_list_pop_2 _ _) (PySem.MeetsSeq.list_pop_at a (u::us).toArray m 0 _ 0 u av (by simp [seqIndex?]) (by simp) (by rw [QH,QC,u2.length];exact Qx (Nat.succ_le_succ hz) av)) ⟨h3,?_⟩
  obtain ⟨m',e⟩:=g0 (fun xs=>xs.eraseIdxIfInBounds 0) (u::us).toArray m
  have hl:=Rh (R3.mapSeq fun xs=>xs.eraseIdxIfInBounds 0) h3 (by rw [e];rfl)
  obtain ⟨aM,aO⟩:=F'.m7 (tk:=s'.toks) (dr:=s'.drawn) (vs':=us) (m':=m') (ds':=ds) hx h1 h2 (QL.SameBut.update ..) (by rw [hl,e];simpa using kl_erase [] us u) u2
  exact q _ g' o' _ aM (S'.trans aO) u1
end
def JV:Lean.Syntax:=Lean.Unhygienic.run `(tacticSeq| (intro _ _ _ _ e;cases e))
section
variable {X:Cx}{n:Nat}{sc:QM}{ρ af ay cN:Rw}{b ao b₂ eb:Array UInt8}
theorem gV {A:QE}{f:FD}{g:GM}{o:Qy→List Qt}{s:Qs}{Q:Qr→Qs→Prop}{E:Qr→Qs→Prop}{x:Qy}{np:Rd}{ds:List D}(hx:lk ρ x=some (.own ds)) (hn:okN x=true) (F:FR X.B X.V A f g o ρ b s)
  (h:∀ a vs m,cI s.heap f.env x (.ref a)→o x=[a]→s.heap.get? a=some (listOf vs.toArray m)→aB g X.V.obj vs ds→Q (.ref a) s):QF (QJ X.prog X.w) A (eval (.Name x np) f.env) Q E s:=by
 obtain ⟨v,h1,a,vs,m,rfl,h2,h3,h4⟩:=F.vars x _ hx
 exact Rb (aV F.kind h1 (okN.d hn).2 (h a vs m h1 h2 h3 h4)) (okN.d hn).1
theorem SE.Dc {x:Qy}{np pos:Rd}{slice:QR}{ds:List D}{i:Int}{d:D}(hx:lk ρ x=some (.own ds)) (hi:SE X n sc slice ρ b (.int i) af ao) (fI:lk af x=some (.own ds)) (h0:0≤i) (h1:i<2 ^ 63) (hd:ds[i.toNat]?=some d) (hn:autoParam (okN x=true) bG)
  (hs:autoParam (∀ o i,∃ ops,subscripted slice false o i=operate ops (getItem o i)) DD):SE X n sc (.Subscript (.Name x np) slice pos) ρ b d af ao:=fun A f g o s Q E R aY F q=>by
 rw [T4]
 refine Qq (gV hx hn F fun a vs m k1 k2 k3 k4=>Qq (Q0 (hi A f g o s _ E R aY F fun u bl cx bk aM aO bt=>Qq (Q2 ?_))))
 obtain ⟨v',j1,a',vs',m',rfl,j2,j3,j4⟩:=aM.vars x _ fI
 have e:=(aO.vk x _ k1).unique j1
 cases e
 obtain ⟨ti,rfl⟩:=bt.bZ
 have hL:bk.heap.IsList a vs'.toArray:=⟨_,j3,rfl,m',rfl⟩
 obtain ⟨y,e1,e2⟩:=j4.get hd
 obtain ⟨ops,ho⟩:=hs (.ref a) (.int i ti)
 exact Vm (value:=.Name x np) (slice:=slice) hL.typeIs Tx.lookup (Ui hL h0 h1 (by rw [Ri];exact e1) (q y bl cx bk aM aO e2)) ho
theorem S1.F3 {x:Qy}{np tp pos:Rd}{idx value:QR}{ds:List D}{i:Int}{d:D}(hx:lk ρ x=some (.own ds)) (hv:SE X n sc value ρ b d ρ b) (hi:SE X n sc idx ρ b (.int i) ρ b) (h0:0≤i) (h1:i<ds.length) (hz:ds.length≤1000000) (hn:autoParam (okN x=true) bG)
  (hs:autoParam (∀ env,swapsWith value (some (.Subscript (.Name x np) idx tp)) pos.line env=pure false) cw) (pf:autoParam (∀ l u st p,idx≠.Slice l u st p) JV):S1 X n sc (.Assign [.Subscript (.Name x np) idx tp] value pos) ρ b (.next (aS ρ x (.own (ds.set i.toNat d))) b):=fun A f g o s Q E R aY I F q=>by
 refine S4 (hv A f g o s _ E R aY F fun v aE aN ah aA aP aW=>gV hx hn aA fun a vs m k1 k2 k3 k4=>hi A f aE aN ah _ E R aY aA fun u bl cx bk aM aO bt=>?_) (hs _)
 obtain ⟨v',j1,a',vs',m',rfl,j2,j3,j4⟩:=aM.vars x _ hx
 have e:=(aO.vk x _ k1).unique j1
 cases e
 have F4:=aW.mono aO.gm
 obtain ⟨ti,rfl⟩:=bt.bZ
 have hL:bk.heap.IsList a vs'.toArray:=⟨_,j3,rfl,m',rfl⟩
 have hlen:=j4.length
 unfold setItem
 try with_reducible refine Q0 ?_
 first|refine Qq (Qv ?_)|skip
 refine Qq (wpAny_sequenceKey hL.typeIs av ?_)
 refine Qq (Rm (name:=Qy.ofString "__setitem__") hL.typeIs Us (Rj Us hL.typeIs entry_list_setitem ?_ (args_list_setitem _ _ _)))
 show QF _ _ (Builtin.List.listSubscript? (.int i ti)>>=_) _ _ bk
 refine Qq (wpAny_listSubscript_int (Vc h0 ((Lq 2 1 [] (ag (cU bc (aL aa)) (ag (aq aa (ae 1000000)) (ag (aH aj aa) (cU bc (aJ (2 ^ 63))))))) h1 hz hlen)) ?_)
 obtain ⟨j,rfl⟩:=Int.eq_ofNat_of_zero_le h0
 have hj:j<vs'.toArray.size:=by rw [QH,hlen];exact (dC (ag (aH az aj) (ag (cU (aL aa) (aL aj)) (aD aa aj)))) hlen h1
 show QF _ _ ((seqItemAt a j>>=fun r=>pure (r.map (j,·)))>>=_) _ _ bk
 refine Qq (Qq (wpAny_seqItemAt j3 rfl (Qv ?_)))
 rw [Array.getElem?_eq_getElem hj]
 show QF _ _ (setSeqItemAt a j v>>=_) _ _ bk
 obtain ⟨NZ,e'⟩:=g0 (·.setIfInBounds j v) vs'.toArray m'
 have hl:=Rh (R3.mapSeq (·.setIfInBounds j v)) j3 (by rw [e'];rfl)
 obtain ⟨cA,cO⟩:=aM.m7 (tk:=bk.toks) (dr:=bk.drawn) (vs':=vs'.set j v) (m':=NZ) (ds':=ds.set j d) hx j1 j2 (QL.SameBut.update ..) (by rw [hl,e'];simp) (j4.set j F4)
 have fin:=q bl cx _ cA (aP.toStep.trans (aO.toStep.trans cO.toStep))
 refine Qq (wpAny_setSeqItemAt j3 rfl ?_)
 first
  | exact Qq (Qv (Qv ⟨.none,rfl,Qv fin⟩))
  | exact Qv ⟨.none,rfl,Qv fin⟩
theorem ST.Mt {x:Qy}{np lp pos:Rd}{ps:List QG}(hx:lk ρ x=some (.own (ofPys ps))) (sp:shaped (.list ps)=true) (hn:autoParam (okN x=true) bG):ST X n sc (.Compare (.Name x np) [.NotEq] [.List [] lp] pos) ρ b (!QG.eqv (.list ps) (.list [])) ρ b:=fun A f g o s Q E R aY F q=>by
 refine Sw (gV hx hn F fun a vs m k1 k2 k3 k4=>Ug (Tu ⟨RC _,?_⟩)) rfl
 obtain ⟨aM,aO⟩:=F.keeps (h':=s.heap.push { cls:=.type "list",data:=.seq ([]:List Qr).toArray }) (tk:=s.toks) (dr:=s.drawn) fun a ob e=>Qz _ e
 have kk:∀ a ob,s.heap.get? a=some ob→(s.heap.push { cls:=.type "list",data:=.seq ([]:List Qr).toArray }).get? a=some ob:=fun a ob e=>Qz _ e
 have hc:QG.canLayAll0 ps=true:=by simpa [QG.canLay0] using Q5 sp
 obtain ⟨as,k5⟩:=aB.reads (h:=s.heap.push { cls:=.type "list",data:=.seq ([]:List Qr).toArray }) aM.bf ps vs hc k4
 exact ne_dataH (.list (kk _ _ k3) rfl rfl (by simpa using k5)) (.list (vs:=#[]) (QN _ rfl) rfl rfl .nil) sp av R.u (Se (q g o _ aM aO))
theorem AU {g:GM}{vw:Nat→Option Qt}{vs:List Qr}{xs:List Qy}(h:aB g vw vs (xs.map D.str)):∃ l:List (Qy×UN),vs=strValues l∧l.map (·.1)=xs:=by
 induction xs generalizing vs with
 | nil=>cases h;exact ⟨[],rfl,rfl⟩
 | cons x xs ih =>
  obtain ⟨_,_,rfl,r1,r2⟩:=h.jl
  obtain ⟨t,rfl⟩:=r1.j9
  obtain ⟨l,rfl,h2⟩:=ih r2
  exact ⟨(x,t)::l,rfl,by simp [h2]⟩
theorem SE.join {sep:Qy}{ck:Nat}{cp apos pos:Rd}{e:QR}{xs:List Qy}(he:SE X n sc e ρ b (.list (xs.map D.str)) af ao) (hj:JoinOk sep xs=true) (dS:autoParam ((apos.endLine==pos.line)=true) bG) (cv:autoParam (∀ env,QS [e] env=[(false,eval e env)]) cw) :
  SE X n sc (.Call (.Attribute (.Constant (.str sep) ck cp) "join" apos) [e] [] pos) ρ b (.str (Txt.join sep xs)) af ao:=fun A f g o s Q E R aY F q=>by
 refine SW rfl (by rw [cv];rfl) dS (Um ?_)
 obtain ⟨aA,aP⟩:=F.tok (s.toks+1)
 rw [cv]
 refine SB.join (he A f g o _ _ E R aY aA fun v bl cx bk aM aO r=>?_)
 obtain ⟨a,ob,vs,m,rfl,h1,h2,h3,h4⟩:=r.dp
 obtain ⟨l,rfl,hl⟩:=AU h4
 refine ⟨a,l,rfl,⟨ob,aM.bf _ _ h1,h2,m,h3⟩,xs,hl,hj,fun t' k=>?_⟩
 obtain ⟨cA,cO⟩:=aM.tok k
 exact q _ bl cx _ cA (aP.trans (aO.trans cO)) (.str _ _)
theorem SF.rep {elts:List QR}{lp pos:Rd}{r:QR}{d:D}{k:Int}(hl:rh X n sc elts ρ b [d] af ao) (hr:SE X n sc r af ao (.int k) ay b₂) (h0:0≤k) (h1:k≤1000000):SF X n sc (.BinOp (.List elts lp) .Mult r pos) ρ b (.own (replicate k.toNat d)) ay b₂:=fun A f g o s Q E R aY F q=>by
 refine wpAny_BinOp (Ug (hl lp A f g o s _ E R aY F fun vs aE aN ah aA aP aW=>⟨by rw [aW.length];exact (by decide:1≤sizeLine),?_⟩))
 obtain ⟨aM,aO⟩:=aA.fresh (h':=ah.heap.push { cls:=.type "list",data:=.seq vs.toArray }) (tk:=ah.toks) (dr:=ah.drawn) (fun a ob e=>Qz _ e) (get_none (QV _)) (QN ah.heap rfl)
 refine hr A f _ aN _ _ E R aY aM fun u gO kn b4 cA cO qu=>?_
 have hL:=cA.bf _ _ (cO.gm _ _ GM.b7)
 have rv:=(aW.mono aO.gm).mono cO.gm
 generalize ah.heap.objs.size=c at hL ⊢
 cases rv with
 | @cons v _ _ _ w1 w2 =>
  cases w2
  obtain ⟨u,rfl⟩:=qu.bZ
  refine wpAny_binaryOp_repeat_ref (T:="list") (U:="int") av ⟨_,hL,rfl⟩ (fun s'=>typeIs_int s' k u) noFill_list_mul PySem.F.fills_int_mul PySem.F.slot_int_rmul repeat_list PySem.F.slot_int_index.lookup
   (Uj PySem.F.slot_int_rmul (typeIs_int b4 k u) PySem.F.entry_int_rmul (PySem.F.args_int_rmul_2 _ _) (int___rmul___int_list k u c [v].toArray 0)
    ⟨hL,rfl,⟨_,hL,rfl⟩,Uj PySem.F.slot_list_mul ⟨_,hL,rfl⟩ PySem.F.entry_list_mul (PySem.F.args_list_mul_2 _ _)
     (AutoListH.list___mul___list_int_3 c [v].toArray 0 k u (by simp [Builtin.List.listFitsIndex];exact (wb (ag (bM (aJ 0) bc) (ag (bM bc (aJ 1000000)) (dB (bM (xN (aJ 9223372036854775808)) bc) (cU bc (aJ 9223372036854775808)))))) h0 h1) (by rw [show [v].toArray.size=1 from rfl];omega) (by rw [show [v].toArray.size=1 from rfl];simp [Builtin.List.listTooLong,sizeLine];exact (wb (ag (bM (aJ 0) bc) (ag (bM bc (aJ 1000000)) (bM bc (aJ 16777216))))) h0 h1))
     ⟨hL,?_⟩⟩)
  rw [show [v].toArray.isEmpty=false from rfl]
  have e2:∀ (j:Nat) (acc:Array Qr),foldl (fun x1 x2=>x1++x2) acc (replicate j #[v])=acc++(replicate j v).toArray:=by
   intro j
   induction j with
   | zero=>intro acc;simp
   | succ j ih =>
    intro acc
    rw [List.replicate_succ,RY,ih,List.replicate_succ]
    apply Uk.mp
    simp
  have cy:=QN (o:={ cls:=.type "list",data:=.seq (foldl (fun x1 x2=>x1++x2) #[] (replicate (if false=true then 0 else k.toNat) [v].toArray)) }) b4.heap rfl
  obtain ⟨fz,fS⟩:=cA.tD (h':=b4.heap.push { cls:=.type "list",data:=.seq (foldl (fun x1 x2=>x1++x2) #[] (replicate (if false=true then 0 else k.toNat) [v].toArray)) }) (tk:=b4.toks) (dr:=b4.drawn) (fun a ob e=>Qz _ e) [b4.heap.objs.size] (fun a ha=>by cases bq ha;exact get_none (QV _)) (fun a ha=>by cases bq ha;exact ⟨_,cy⟩)
  refine q _ _ _ _ [b4.heap.objs.size] fz (aP.trans (aO.trans (cO.trans fS))) (fun a ha=>⟨?_,?_⟩) ⟨_,replicate k.toNat v,0,rfl,rfl,?_,?_⟩
  ·cases bq ha
   show _∈(if bh=bh then [b4.heap.objs.size]++kn bh else _)
   rw [if_pos rfl];exact QB
  ·cases bq ha
   cases e:s.heap.get? b4.heap.objs.size with
   | none=>rfl
   | some ob =>
    obtain ⟨b0,e'⟩:=(aP.trans (aO.trans cO)).iW _ _ e
    exact absurd (Rt e') (TH _)
  ·have e3:=e2 k.toNat #[]
   rw [Array.empty_append] at e3
   rw [← e3]
   exact cy
  ·clear e2 cy fz fS
   induction k.toNat with
   | zero=>exact .nil
   | succ j ih=>exact .cons w1 ih
end
theorem nk (B h:QL) (L:Qt):∃ news:List (Qt×R3),News B L h news∧(∀ a ob,h.get? a=some ob→B.get? a=none→a≠L→(a,ob)∈news)∧(news.map (·.1)).Nodup:=by
 refine ⟨(range h.objs.size).filterMap fun a=>if (B.get? a).isNone=true∧a≠L then (h.get? a).map fun ob=>(a,ob) else none,fun p hp=>?_,fun a ob e hB hL=>?_,?_⟩
 ·obtain ⟨a,_,h1⟩:=Ss.mp hp
  split at h1
  ·rename_i hc
   obtain ⟨ob,e,rfl⟩:=rO h1
   exact ⟨e,hc.2,Option.isNone_iff_eq_none.mp hc.1⟩
  ·cases h1
 ·refine Ss.mpr ⟨a,R8.mpr (Rt e),?_⟩
  rw [if_pos ⟨by rw [hB];rfl,hL⟩,e];rfl
 ·rw [List.nodup_iff_pairwise_ne,TM]
  refine List.Pairwise.filterMap _ (fun a a' cy p hp p' KQ=>?_) (List.nodup_iff_pairwise_ne.mp List.nodup_range)
  have f:∀ (a:Nat) (p:Qt×R3),(if (B.get? a).isNone=true∧a≠L then (h.get? a).map fun ob=>(a,ob) else none)=some p→p.1=a:=fun a p hp=>by
   split at hp
   ·obtain ⟨ob,_,rfl⟩:=rO hp;rfl
   ·cases hp
  rw [f a p hp,f a' p' KQ]
  exact cy
theorem uY {d:Qt}{od od':R3}:∀ {news:List (Qt×R3)},(d,od)∈news→(news.map (·.1)).Nodup→∃ pQ,Upd d od od' news pQ∧(∀ p∈news,p.1≠d→p∈pQ)∧(d,od')∈pQ
 | p::r,hm,hn=>by
  rw [QT,RH] at hn
  rcases bS hm with e|hm
  ·subst e
   refine ⟨_,.head fun q hq z=>hn.1 (fV ⟨q,hq,z⟩),fun q hq hd=>?_,QB⟩
   rcases bS hq with rfl|hq
   ·exact absurd rfl hd
   ·exact QD _ hq
  ·obtain ⟨r',U,h1,h2⟩:=uY (od':=od') hm hn.2
   have hd:p.1≠d:=fun z=>hn.1 (z▸List.mem_map_of_mem hm)
   refine ⟨p::r',.tail hd U,fun q hq Om=>?_,QD _ h2⟩
   rcases bS hq with rfl|hq
   ·exact QB
   ·exact QD _ (h1 q hq Om)
theorem FR.fr {B:QL}{V:VI}{A:QE}{f:FD}{g:GM}{o:Qy→List Qt}{ρ:Rw}{b:Array UInt8}{s:Qs}(F:FR B V A f g o ρ b s):∃ m,Fr B f.env.locals s.heap m:=by
 obtain ⟨m,hn⟩:=F.kE
 exact ⟨m,hn,F.bC,F.LB⟩
theorem iN {l:List Qy}{es:List RK}{vs:List Qr}(h:FieldsAt l es vs):∀ {k:Nat}{nm:Qy}{v:Qr},l[k]?=some nm→l.Nodup→vs[k]?=some v→getL nm es=some (some v):=by
 induction h with
 | nil=>intro k nm v _ _ h;simp at h
 | @cons Fj l hh t u es vs _ ih =>
  intro k nm v hl hn hv
  unfold getL
  rw [List.find?_cons]
  rw [RH] at hn
  cases k with
  | zero =>
   simp only [Ry,Option.some.injEq] at hl hv
   subst hl;subst hv
   simp [Qr.isStr]
  | succ k =>
   simp only [Sa] at hl hv
   have cy:Fj≠nm:=fun z=>hn.1 (z▸Q1 hl)
   have:((⟨hh,.str Fj t,u⟩:RK).key.isStr nm)=false:=by simpa [Qr.isStr] using cy
   rw [this]
   have e:=ih hl hn.2 hv
   unfold getL at e
   revert e
   cases hf:List.find? (fun e=>e.key.isStr nm) es with
   | some e=>intro e';exact e'
   | none =>
    intro e'
    have e':(if (es.any fun x=>x.refKey)=true then none else some none)=some (some v):=e'
    split at e'<;>cases e'
theorem jF {l:List Qy}{es:List RK}{vs:List Qr}(h:FieldsAt l es vs):∀ {nm:Qy},nm∉l→getL nm es=some none:=by
 intro nm hn
 have h1:es.find? (·.key.isStr nm)=none:=by
  induction h with
  | nil=>rfl
  | @cons Fj l hh t u es vs _ ih =>
   rw [R1,not_or] at hn
   rw [List.find?_cons]
   have:((⟨hh,.str Fj t,u⟩:RK).key.isStr nm)=false:=by simpa [Qr.isStr] using Ne.symm hn.1
   rw [this]
   exact ih hn.2
 have h2:es.any (·.refKey)=false:=by
  clear h1 hn
  induction h with
  | nil=>rfl
  | cons _ ih=>rw [UO,ih];rfl
 unfold getL
 rw [h1,h2];rfl
theorem ku {l:List Qy}{es:List RK}{vs:List Qr}(h:FieldsAt l es vs) (hh:Int) (t:UN) (v:Qr):∀ {k:Nat}{nm:Qy},l[k]?=some nm→l.Nodup→k≤vs.length→FieldsAt l (putL nm hh (.str nm t) v es) (if k<vs.length then vs.set k v else vs++[v]):=by
 induction h with
 | nil l =>
  intro k nm hl _ hk
  obtain rfl:k=0:=by simpa using hk
  cases l with
  | nil=>simp at hl
  | cons x l =>
   simp only [Ry,Option.some.injEq] at hl
   subst hl
   simp only [QP,TH,if_false,List.nil_append]
   exact .cons (.nil l)
 | @cons Fj l h0 t0 u es vs hf ih =>
  intro k nm hl hn hk
  rw [RH] at hn
  unfold putL
  cases k with
  | zero =>
   simp only [Ry,Option.some.injEq] at hl
   subst hl
   rw [if_pos (by simp [Qr.isStr])]
   simp only [QC,Nat.zero_lt_succ,if_true,List.set_cons_zero]
   exact .cons hf
  | succ k =>
   simp only [Sa] at hl
   have cy:Fj≠nm:=fun z=>hn.1 (z▸Q1 hl)
   rw [if_neg (by simpa [Qr.isStr] using cy)]
   have e:=ih hl hn.2 (by simpa using hk)
   simp only [QC,Nat.add_lt_add_iff_right,List.set_cons_succ]
   split
   ·rename_i q
    rw [if_pos q] at e
    exact .cons e
   ·rename_i q
    rw [if_neg q] at e
    exact .cons e
theorem kv {l:List Qy}{es:List RK}{vs:List Qr}(h:FieldsAt l es vs):es.length=vs.length∧vs.length≤l.length:=by
 induction h with
 | nil=>exact ⟨rfl,RC _⟩
 | cons _ ih=>exact ⟨by simp [ih.1],by simpa using ih.2⟩
theorem oj (c:Nat):(eE c).Nodup:=by
 match c with
 | 0=>decide
 | 1=>decide
 | 2=>decide
 | c+3=>show (["kind","block","most","bonus"]:List Qy).Nodup;decide
theorem nJ (nm:Qy) (hh:Int) (key v:Qr):∀ es:List RK,(putL nm hh key v es).length≤es.length+1:=by
 intro es
 induction es with
 | nil =>
  exact by simp [putL]
 | cons e r bA =>
  unfold putL
  split
  ·simp
  ·have:=bA
   simp only [QC];exact (cS (ag (aq aa (ak aj (ae 1))) (aq (ak aa (ae 1)) (ak (ak aj (ae 1)) (ae 1))))) this
section
variable {X:Cx}{n:Nat}{sc:QM}{ρ af ay cN:Rw}{b ao b₂ eb:Array UInt8}
theorem yZ {c k:Nat}{nm:Qy}(h:(eE c)[k]?=some nm):nm∈eE c:=Q1 h
theorem jk {A:QE}{f:FD}{g:GM}{o:Qy→List Qt}{s:Qs}{Q:Qr→Qs→Prop}{E:Qr→Qs→Prop}{c k:Nat}{nm:Qy}{a dx:Qt}{es:List RK}{m:Nat}{sl:Array (Option Qr)} {vs:List Qr}{v:Qr}{expr:Bool}
  (F:FR X.B X.V A f g o ρ b s) (ha:s.heap.get? a=some ⟨.ref (ra c),some dx,.plain,sl⟩) (hd:s.heap.get? dx=some (Sv es m)) (hf:FieldsAt (eE c) es vs) (hk:(eE c)[k]?=some nm) (hv:vs[k]?=some v) (hh:handedIn v=true) (q:Q v { s with toks:=s.toks+1 }) :
  QF (QJ X.prog X.w) A (getAttr (.ref a) nm expr) Q E s:=by
 have C:=X.cls c
 obtain ⟨h1,attr,h2,h3⟩:=C.get nm (yZ hk)
 obtain ⟨mm,Fr⟩:=F.fr
 exact Vd (K:=X.K) (C:=ra c) (es:=es) (n:=m) Fr X.hK ⟨ha,rfl,rfl,hd⟩ h1 C.dict h2 h3 (iN hf hk (oj c) hv) hh q
theorem SE.qi {value:QR}{pos:Rd}{c k:Nat}{nm:Qy}{ds:List D}{d:D}(hv:SE X n sc value ρ b (.inst c ds) af ao) (hk:(eE c)[k]?=some nm) (hd:ds[k]?=some d) (hb:autoParam (∀ env w,attributeBase value nm env w=w) qq):SE X n sc (.Attribute value nm pos) ρ b d af ao:=fun A f g o s Q E R aY F q=>by
 rw [RQ,hb]
 refine Qq (hv A f g o s _ E R aY F fun v aE aN ah aA aP aW=>Qq (Q2 (Qq (Q0 ?_))))
 obtain ⟨a,dx,es,m,sl,vs,rfl,h1,h2,h3,h4⟩:=aW.DA
 obtain ⟨u,e1,e2⟩:=h4.get hd
 obtain ⟨aM,aO⟩:=aA.tok (ah.toks+1)
 exact jk aA (aA.bf _ _ h1) (aA.bf _ _ h2) h3 hk e1 e2.handed (Qq (Rz (Qv (q u aE aN _ aM (aP.trans aO) e2))))
theorem SE.qh {x:Qy}{np pos:Rd}{c k:Nat}{nm:Qy}{ds:List D}{d:D}(hx:lk ρ x=some (.obj c ds)) (hk:(eE c)[k]?=some nm) (hd:ds[k]?=some d) (hn:autoParam (okN x=true) bG):SE X n sc (.Attribute (.Name x np) nm pos) ρ b d ρ b:=fun A f g o s Q E R aY F q=>by
 rw [RQ]
 obtain ⟨v,h1,a,dx,es,m,vs,sl,rfl,h2,h3,h4,h5,h6,h7⟩:=F.vars x _ hx
 refine Qq (Rb (aV F.kind h1 (okN.d hn).2 (Qq (Q2 (Qq (Q0 ?_))))) (okN.d hn).1)
 obtain ⟨u,e1,e2⟩:=h7.get hd
 obtain ⟨aM,aO⟩:=F.tok (s.toks+1)
 exact jk F h4 h5 h6 hk e1 e2.handed (Qq (Rz (Qv (q u g o _ aM aO e2))))
theorem Ns.uniq {h:QL}{a:Qt}{m m':Qy→Option Qr}(x:h.Ns a m) (y:h.Ns a m'):m=m':=by
 obtain ⟨o1,e1,p1,g1,d1,_,f1⟩:=x
 obtain ⟨o2,e2,p2,g2,d2,_,f2⟩:=y
 cases ig g1 g2
 rw [d1] at d2;cases d2
 funext z
 rw [← f1,← f2]
theorem jE {l:List Qy}{es:List RK}{vs:List Qr}(h:FieldsAt l es vs) (nm:Qy):(getL nm es).isSome=true:=by
 have h2:es.any (·.refKey)=false:=by
  induction h with
  | nil=>rfl
  | cons _ ih=>rw [UO,ih];rfl
 unfold getL
 split
 ·rfl
 ·rw [h2];rfl
theorem Bo (c:Nat):(eE c).length≤11:=by
 match c with
 | 0=>decide
 | 1=>decide
 | 2=>decide
 | c+3=>show (["kind","block","most","bonus"]:List Qy).length≤11;decide
theorem iS {x:Qy}{np tp pos:Rd}{c k:Nat}{nm:Qy}{value:QR}{ds:List D}{d:D}(hv:SE X n sc value ρ b d af ao) (hx:lk af x=some (.obj c ds)) (hk:(eE c)[k]?=some nm) (hl:k≤ds.length) (hn:autoParam (okN x=true) bG)
  (hs:autoParam (∀ env,swapsWith value (some (.Attribute (.Name x np) nm tp)) pos.line env=pure false) cw):S1 X n sc (.Assign [.Attribute (.Name x np) nm tp] value pos) ρ b (.next (aS af x (.obj c (if k<ds.length then ds.set k d else ds++[d]))) ao):=fun A f g o s Q E R aY I F q=>by
 refine RN (hv A f g o s _ E R aY F fun v aE aN ah aA aP aW=>?_) (hs _)
 obtain ⟨w',h1,a,dx,es,m,vs,sl,rfl,h2,h3,h4,h5,h6,h7⟩:=aA.vars x _ hx
 refine Rb (aV aA.kind h1 (okN.d hn).2 ?_) (okN.d hn).1
 have C:=X.cls c
 obtain ⟨mm,te⟩:=aA.fr
 obtain ⟨news,N,gN,jb⟩:=nk X.B ah.heap f.env.locals
 have ma:a∈aN x:=by rw [h2];exact QB
 have md:dx∈aN x:=by rw [h2];simp
 have Li:dx≠f.env.locals:=fun z=>(aA.dY x dx md).1 (z▸aA.ib)
 have Nb:a≠f.env.locals:=fun z=>(aA.dY x a ma).1 (z▸aA.ib)
 have hB:∀ y,y∈aN x→X.B.get? y=none:=fun y hy=>aA.mB y (.inr (.inr ⟨x,hy⟩))
 have hlen:=h7.length
 have lB:=kv h6
 obtain ⟨pQ,U,HT,vH⟩:=uY (od':=Sv (putL nm (QG.keyHash X.w.params nm) (.str nm (ah.toks+1)) v es) (putN nm es m)) (gN dx _ h5 (hB dx md) Li) jb
 refine Vn (K:=X.K) (C:=ra c) (dx:=dx) (es:=es) (n:=m) (es':=putL nm (QG.keyHash X.w.params nm) (.str nm (ah.toks+1)) v es) (n':=putN nm es m) te X.hK N ⟨h4,rfl,rfl,h5⟩ rfl C.sa C.over (C.tk nm (yZ hk)) C.dict ?_ rfl U ?_ fun h' sr N'=>?_
 ·exact jE h6 nm
 ·have OE:=Bo c
  have:=nJ nm (QG.keyHash X.w.params nm) (.str nm (ah.toks+1)) v es
  exact (ji (ag (dB (aH aj az) (aq az a7)) (ag (aq a7 (ae 11)) (ag (aq aa (ak aj (ae 1))) (aq aa (ae 1000)))))) lB OE this
 ·have kk:∀ y ob,y≠dx→y≠f.env.locals→ah.heap.get? y=some ob→h'.get? y=some ob:=fun y ob hy hL e=>by
   cases eB:X.B.get? y with
   | some b0 =>
    have:=aA.bC y b0 eB
    cases ig e this
    exact sr.keep y _ eB
   | none=>exact (N' _ (HT _ (gN y ob e eB hL) hy)).1
  have oV:=(N' _ vH).1
  have xg:aB aE X.V.obj (if k<vs.length then vs.set k v else vs++[v]) (if k<ds.length then ds.set k d else ds++[d]):=by
   rw [hlen]
   split
   ·exact h7.set k aW
   ·exact h7.append (.one aW)
  obtain ⟨aM,aO⟩:=aA.tP (tk:=ah.toks+2) (dr:=ah.drawn) (h':=h') (e':=.obj c (if k<ds.length then ds.set k d else ds++[d])) hx h1 (fun y ob hy hL e=>kk y ob (fun z=>hy (z▸md)) hL e) (fun m' si=>by rw [Ns.uniq si te.ns];exact sr.ns) (fun y hy=>by
   rw [h2] at hy
   rcases bS hy with rfl|hy
   ·exact ⟨_,kk y _ h3 Nb h4⟩
   ·cases bq hy
    exact ⟨_,oV⟩)
   ⟨a,dx,_,_,if k<vs.length then vs.set k v else vs++[v],sl,rfl,h2,h3,kk a _ h3 Nb h4,oV,ku h6 _ _ v hk (oj c) (by rw [hlen];exact hl),xg⟩
  exact q aE aN _ aM (aP.toStep.trans aO.toStep)
end
noncomputable def uR (X:Cx) (A:QE) (g:GM) (s:Qs) (os:List Qt):Prop:=∀ a∈os,(∃ ob,s.heap.get? a=some ob)∧g a=none∧X.B.get? a=none∧a∉fL A∧a∉X.V.fp
noncomputable def gJ (X:Cx) (n:Nat) (a:Qt) (c:Nat) (ds args:List D) (b:Array UInt8) (d:D) (ds':List D) (b':Array UInt8):Prop :=
 ∀ (A:QE) (f:FD) (g:GM) (o:Qy→List Qt) (ρ:Rw) (s:Qs) (x dx:Qt) (vs:List Qr) (R:Result→Qs→Prop),cG A n→FR X.B X.V A f g o ρ b s→uR X A g s [x,dx]→lz g X.V.obj s.heap [x,dx] (.ref x) (.obj c ds)→aB g X.V.obj vs args →
  (∀ v g' os' s',ef X.V A (·∈[x,dx]) g s g' b' s'→Rep g' X.V.obj v d→lz g' X.V.obj s'.heap os' (.ref x) (.obj c ds')→uR X A g' s' os'→(∀ a∈os',a∈[x,dx]∨s.heap.get? a=none)→R (.ok (.ret v)) s') →
   RS (QJ X.prog X.w) A (.call (.ref a) ⟨.ref x::vs,[]⟩) R s
inductive E6 (c:Nat):Fl→D→List D→Array UInt8→Prop
 | next {ρ:Rw}{b:Array UInt8}{ds:List D}:lk ρ a9=some (.obj c ds)→E6 c (.next ρ b) .none ds b
 | ret {ρ:Rw}{b:Array UInt8}{ds:List D}{d:D}:lk ρ a9=some (.obj c ds)→E6 c (.ret d ρ b) d ds b
section
variable {B:QL}{V:VI}{A:QE}{f:FD}{g g':GM}{o:Qy→List Qt}{ρ:Rw}{b b':Array UInt8}{s s':Qs}
theorem FR.around {A':QE}(F:FR B V A f g o ρ b s) (h:A'.frames=A.frames):FR B V A' f g o ρ b s:=by
 have e:fL A'=fL A:=by unfold fL;rw [h]
 exact { F with lE:=fun a q=>F.lE a (e▸q),fB:=fun a q=>F.fB a (e▸q),ic:=fun x a q z=>F.ic x a q (e▸z),ry:=fun a q z=>F.ry a q (e▸z),cells:=fun x c hc=>{ F.cells x c hc with c3:=fun z=>(F.cells x c hc).c3 (e▸z) },da:=by obtain ⟨outer,ho,r⟩:=F.da;exact ⟨outer,h.trans ho,r⟩ }
theorem FR.back {X:Cx}{x:Qy}{en q0:En}{v:Qr}{os':List Qt}{f:FD}{o:Qy→List Qt}(F:FR X.B X.V A f g o ρ b s) (hx:lk ρ x=some en) (C:ef X.V A (·∈o x) g s g' b' s') (hv:cI s.heap f.env x v) (he:lz g' X.V.obj s'.heap os' v q0)
  (hl:uR X A g' s' os') (ja:∀ a∈os',a∈o x∨s.heap.get? a=none) :
  FR X.B X.V A f g' (fun y=>if y=x then os' else o y) (aS ρ x q0) b' s'∧bK X.V A f g o s g' (fun y=>if y=x then os' else o y) s':=by
 have m9:x≠bh:=fQ F.eC hx
 have P:∀ a,a∉o x→¬ (a∈X.V.mt∨a∈o x)∨a∈X.V.mt:=fun a h=>(Decidable.em (a∈X.V.mt)).elim .inr fun q=>.inl fun z=>z.elim q h
 have Lx:f.env.locals∉o x:=fun h=>(F.dY x _ h).1 F.ib
 have ns:∀ m,s.heap.Ns f.env.locals m→s'.heap.Ns f.env.locals m:=fun m hn=>kQ hn fun ob e=>C.kept.slot _ ob e fun h=>h.elim F.jM Lx
 have cl:∀ y c,f.env.cells.lookup y=some c→∀ ov,s.heap.IsCell c ov→s'.heap.IsCell c ov:=fun y c hc ov ⟨ob,e,hd⟩=>⟨ob,C.kept.keep c ob e (fun h=>h.elim (fun h=>(F.cells y c hc).c4 (X.V.sub _ h)) ((F.cells y c hc).c5 x)) (F.cells y c hc).c3,hd⟩
 have lD:∀ a,(∃ ob,s.heap.get? a=some ob)→a∉o x→g a=none→g' a=none:=fun a td Dj e=>by
  cases q:g' a with
  | none=>rfl
  | some ob =>
   rcases C.gn a e (by rw [q];exact fun z=>nomatch z) with h|h
   ·exact absurd h Dj
   ·obtain ⟨b0,e'⟩:=td
    exact dP h e'
 let o':Qy→List Qt:=fun y=>if y=x then os' else o y
 have ox:o' x=os':=if_pos rfl
 have oy:∀ y,y≠x→o' y=o y:=fun y h=>if_neg h
 have mem:∀ y a,a∈o' y→(y=x∧a∈os')∨(y≠x∧a∈o y):=fun y a h=>by
  by_cases q:y=x
  ·subst q;rw [ox] at h;exact .inl ⟨rfl,h⟩
  ·rw [oy y q] at h;exact .inr ⟨q,h⟩
 have md:∀ a,Mod X.V f o' a→a∈os'∨(Mod X.V f o a∧a∉o x):=fun a h=>by
  rcases h with h|h|⟨z,h⟩
  ·exact .inr ⟨.inl h,fun q=>(F.dY x a q).1 h⟩
  ·exact .inr ⟨.inr (.inl h),fun q=>(F.dY x a q).2 (X.V.sub _ h)⟩
  ·rcases mem z a h with ⟨_,h⟩|⟨hz,h⟩
   ·exact .inl h
   ·exact .inr ⟨.inr (.inr ⟨z,h⟩),F.cX z x hz a h⟩
 have wW:∀ a∈os',a∉f.fx∧∀ y,y≠x→a∉o y:=fun a ha=>by
  rcases ja a ha with h|h
  ·exact ⟨(F.dY x a h).1,fun y hy q=>F.cX y x hy a q h⟩
  ·have U:=dh.fresh F h
   exact ⟨U.fx,fun y _=>U.o y⟩
 refine ⟨{ F with bC:=fun a ob q=>?_,gens:=C.gens,bf:=C.bf,lE:=fun a h=>lD a (F.da.live h) (fun q=>F.ic x a q h) (F.lE a h),f9:=fun a h=>?_,mB:=fun a h=>?_,live:=fun a h=>?_,dY:=fun y a h=>?_,cX:=fun y z q a h h'=>?_,ic:=fun y a h=>?_,view:=C.view,vars:=fun y e h=>?_,kE:=?_,cells:=fun y cc hc=>?_,da:=?_,eC:=by rw [bx,if_neg (Ne.symm m9)];exact F.eC,pin:=fun p hp=>(F.pin p hp).move ns (cl p.1) },
  ⟨⟨⟨fun a ob q p r=>C.kept.keep a ob q (fun h=>p (h.elim (fun h=>.inr (.inl h)) fun h=>.inr (.inr ⟨x,h⟩))) r,fun a ob q p=>C.kept.slot a ob q fun h=>p (h.elim (fun h=>.inr (.inl h)) fun h=>.inr (.inr ⟨x,h⟩))⟩,C.iW,C.gm,fun a q q'=>(C.gn a q q').imp (fun h=>⟨x,h⟩) id,fun y a h=>?_,C.os⟩,fun a h=>⟨?_,fun ob q=>?_⟩,fun y v h=>h.move ns (cl y)⟩⟩
 ·exact C.kept.keep a ob (F.bC a ob q) (fun h=>by have:=F.mB a (h.elim (fun h=>.inr (.inl h)) fun h=>.inr (.inr ⟨x,h⟩));rw [q] at this;cases this) (fun h=>by have:=F.fB a h;rw [q] at this;cases this)
 ·rcases md a h with h|⟨h,h2⟩
  ·exact (hl a h).2.1
  ·exact lD a (F.live a h) h2 (F.f9 a h)
 ·rcases md a h with h|⟨h,h2⟩
  ·exact (hl a h).2.2.1
  ·exact F.mB a h
 ·rcases md a h with h|⟨h,h2⟩
  ·exact (hl a h).1
  ·obtain ⟨ob,q⟩:=F.live a h
   exact C.iW a ob q
 ·rcases mem y a h with ⟨_,h⟩|⟨_,h⟩
  ·exact ⟨(wW a h).1,(hl a h).2.2.2.2⟩
  ·exact F.dY y a h
 ·rcases mem y a h with ⟨q1,h⟩|⟨q1,h⟩<;>rcases mem z a h' with ⟨q2,h'⟩|⟨q2,h'⟩
  ·exact q (q1.trans q2.symm)
  ·exact (wW a h).2 z q2 h'
  ·exact (wW a h').2 y q1 h
  ·exact F.cX y z q a h h'
 ·rcases mem y a h with ⟨_,h⟩|⟨_,h⟩
  ·exact (hl a h).2.2.2.1
  ·exact F.ic y a h
 ·rw [bx] at h
  by_cases q:y=x
  ·subst q
   cases ig (if_pos rfl) h
   exact ⟨v,hv.move ns (cl y),by show lz g' X.V.obj s'.heap (o' y) v _;rw [ox];exact he⟩
  ·rw [if_neg q] at h
   obtain ⟨u,h1,h2⟩:=F.vars y e h
   refine ⟨u,h1.move ns (cl y),?_⟩
   show lz g' X.V.obj s'.heap (o' y) u e
   rw [oy y q]
   exact h2.mono C.gm fun a ha ob z=>C.kept.keep a ob z (fun h=>h.elim (fun h=>(F.dY y a ha).2 (X.V.sub _ h)) (F.cX y x q a ha)) (F.ic y a ha)
 ·obtain ⟨m,hn⟩:=F.kE
  exact ⟨m,ns m hn⟩
 ·obtain ⟨h1,⟨u,h2⟩,h3,h4,h5,h6⟩:=F.cells y cc hc
  refine ⟨h1,⟨u,cl y cc hc u h2⟩,h3,h4,fun z hz=>?_,h6⟩
  rcases mem z cc hz with ⟨_,hz⟩|⟨_,hz⟩
  ·rcases ja cc hz with h|h
   ·exact h5 x h
   ·obtain ⟨ob,e,_⟩:=h2
    exact dP h e
  ·exact h5 z hz
 ·refine F.da.slot fun a ha ob q=>?_
  obtain ⟨sl,e⟩:=C.kept.slot a ob q fun h=>h.elim (fun h=>F.ry a (X.V.sub _ h) ha) fun h=>F.ic x a h ha
  exact ⟨_,e,fun h=>h⟩
 ·rcases mem y a h with ⟨_,h⟩|⟨_,h⟩
  ·exact (ja a h).imp (fun h=>⟨x,h⟩) id
  ·exact .inl ⟨y,h⟩
 ·show a∈o' bh
  rw [oy bh (Ne.symm m9)];exact h
 ·exact C.kept.keep a ob q (fun z=>z.elim (fun z=>(F.dY _ a h).2 (X.V.sub _ z)) (F.cX bh x (Ne.symm m9) a h)) (F.ic _ a h)
end
theorem di {M:To}{A:QE}{E:Qr→Qs→Prop}{s:Qs}{env:TU}{o:QR}{name:Qy}{apos pos:Rd}{args:List QR}{Q:Qr→Qs→Prop}(zE:attributeBase o name env (eval o env)=eval o env)
  (qN:((backTo pos (QS args env)).all (fun x=>!x.1)&&(backToKw pos (keywordEach [] env)).all (fun x=>x.1.isSome)&&decide (args.length+([]:List Keyword).length+(if ([]:List Keyword).isEmpty then 0 else 1)<30))=true) (dS:(apos.endLine==pos.line)=true)
  (h:QF M A (eval o env) (fun ov ah=>∀ pl,QF M A (getMethod ov name pl) (fun p bk=>QF M A (callWith pos p.1 p.2 (backTo pos (QS args env)) []) Q E bk) E ah) E s):QF M A (eval (.Call (.Attribute o name apos) args [] pos) env) Q E s:=by
 rw [arm_eval_Call,zE]
 refine Qq (Q7 h (fun ov ah h₁=>Qq (Q2 ?_)) fun _ _ e=>e)
 have HY:methodCallForm (args.length+([]:List Keyword).length) (backTo pos (QS args env)) (backToKw pos (keywordEach [] env))=true:=qN
 have El:methodCallPos true o env apos pos=pure pos:=by unfold methodCallPos;simp [dS]
 unfold methodCall
 rw [HY]
 refine Qq (Q0 (Q7 (h₁ _) (fun p bk eR=>?_) fun _ _ e=>e))
 exact Qq (Q4 El eR)
section
variable {X:Cx}{n:Nat}{sc:QM}{ρ af ay cN:Rw}{b ao b₂ eb:Array UInt8}
theorem FR.lend {A:QE}{f:FD}{g:GM}{o:Qy→List Qt}{s:Qs}(F:FR X.B X.V A f g o ρ b s) (x:Qy):uR X A g s (o x):=fun a h=>⟨F.live a (.inr (.inr ⟨x,h⟩)),F.f9 a (.inr (.inr ⟨x,h⟩)),F.mB a (.inr (.inr ⟨x,h⟩)),F.ic x a h,(F.dY x a h).2⟩
theorem j7 {A:QE}{f:FD}{g:GM}{o:Qy→List Qt}{s:Qs}{Q:Qr→Qs→Prop}{E:Qr→Qs→Prop}{x:Qy}{fn:Qt}{ds ds' args:List D}{d:D}{a:Qt}{vs:List Qr}(R:cG A n) (F:FR X.B X.V A f g o ρ b s) (hx:lk ρ x=some (.obj 0 ds)) (hv:cI s.heap f.env x (.ref a)) (hr:aB g X.V.obj vs args)
  (hM:gJ X n fn 0 ds args b d ds' ao) (q:∀ v g' o' s',FR X.B X.V A f g' o' (aS ρ x (.obj 0 ds')) ao s'→bK X.V A f g o s g' o' s'→Rep g' X.V.obj v d→Q v s'):QF (QJ X.prog X.w) A (PySem.call (.ref fn) (.ref a::vs)) Q E s:=by
 obtain ⟨w,h1,h2⟩:=F.vars x _ hx
 have e:=hv.unique h1
 subst e
 obtain ⟨a',dx,es,m,us,sl,e,h3,h4⟩:=id h2
 cases e
 refine Sy (hM A f g o ρ s a dx vs _ R F (h3▸F.lend x) (by rw [← h3];exact h2) hr fun v g' os' s' C rv he hl ja=>?_)
 obtain ⟨F',S'⟩:=F.back (os':=os') hx (by rw [h3];exact C) h1 he hl (by rw [h3];exact ja)
 exact q v g' _ s' F' S' rv
theorem oz {A:QE}{f:FD}{g:GM}{o:Qy→List Qt}{s:Qs}{Q:Qr×List Qr→Qs→Prop}{E:Qr→Qs→Prop}{x name:Qy}{fn a:Qt}{ds:List D}{pl:Sem Bool}(hm:(name,fn)∈pR) (Au:name∉eE 0) (F:FR X.B X.V A f g o ρ b s) (hx:lk ρ x=some (.obj 0 ds)) (hv:cI s.heap f.env x (.ref a))
  (q:Q (.ref fn,[.ref a]) s):QF (QJ X.prog X.w) A (getMethod (.ref a) name pl) Q E s:=by
 obtain ⟨w,h1,h2⟩:=F.vars x _ hx
 have e:=hv.unique h1
 subst e
 obtain ⟨a',dx,es,m,us,sl,e,h3,h4,h5,h6,h7,h8⟩:=h2
 cases e
 obtain ⟨mm,te⟩:=F.fr
 have K:=X.qB _ hm
 exact UI (K:=X.K) (C:=138) (es:=es) (n:=m) te X.hK ⟨h5,rfl,rfl,h6⟩ K.get K.find K.fn (jF h7 Au) q
theorem SE.zc {x name:Qy}{np apos pos:Rd}{fn:Qt}{ds ds':List D}{d:D}(hx:lk ρ x=some (.obj 0 ds)) (hm:(name,fn)∈pR) (hM:gJ X n fn 0 ds [] b d ds' ao) (Au:autoParam (name∉eE 0) bG) (hn:autoParam (okN x=true) bG) (dS:autoParam ((apos.endLine==pos.line)=true) bG) :
  SE X n sc (.Call (.Attribute (.Name x np) name apos) [] [] pos) ρ b d (aS ρ x (.obj 0 ds')) ao:=fun A f g o s Q E R aY F q=>by
 obtain ⟨w,h1,a,dx,es,m,us,sl,rfl,_⟩:=F.vars x _ hx
 refine di rfl rfl dS (Rb (aV F.kind h1 (okN.d hn).2 fun pl=>oz hm Au F hx h1 ?_) (okN.d hn).1)
 exact Tz (P:=X.K.In) rfl (UL (X.qB _ hm).keep) (U5 ⟨X.hK.keeps F.bC,j7 R F hx h1 .nil hM q⟩)
theorem SE.iV {x name:Qy}{np apos pos:Rd}{fn:Qt}{e:QR}{ds gH ds':List D}{d r:D}(hx:lk ρ x=some (.obj 0 ds)) (he:SE X n sc e ρ b r af ao) (fI:lk af x=some (.obj 0 gH)) (hm:(name,fn)∈pR) (hM:gJ X n fn 0 gH [r] ao d ds' b₂) (Au:autoParam (name∉eE 0) bG) (hn:autoParam (okN x=true) bG) (dS:autoParam ((apos.endLine==pos.line)=true) bG)
  (cv:autoParam (∀ env,QS [e] env=[(false,eval e env)]) cw):SE X n sc (.Call (.Attribute (.Name x np) name apos) [e] [] pos) ρ b d (aS af x (.obj 0 ds')) b₂:=fun A f g o s Q E R aY F q=>by
 obtain ⟨w,h1,a,dx,es,m,us,sl,rfl,_⟩:=F.vars x _ hx
 refine di rfl (by rw [cv];rfl) dS (Rb (aV F.kind h1 (okN.d hn).2 fun pl=>oz hm Au F hx h1 ?_) (okN.d hn).1)
 have hs:rh X n sc [e] ρ b [r] af ao:=au he aF (fun env=>by rw [cv];rfl)
 rw [cv]
 refine Tz (P:=X.K.In) rfl (UL (X.qB _ hm).keep) (Rv ?_)
 have mC:=hs pos A f g o s
 rw [cv] at mC
 refine mC _ E R aY F fun vs aE aN ah aA aP aW=>⟨X.hK.keeps aA.bC,j7 R aA fI (aP.vk _ _ h1) aW hM fun v g' o' s' F' S' rv=>q v g' o' s' F' (aP.trans S') rv⟩
end
theorem kj (A:QE) (args:Args):(A.under (.builtin "type.__call__" args)).frames=A.frames∧(A.under (.builtin "type.__call__" args)).handled=A.handled∧(A.under (.builtin "type.__call__" args)).depth≤A.depth+2∧(A.under (.builtin "type.__call__" args)).units≤A.units+4:=by
 have h1:(Uq.builtin "type.__call__" args).envs=[]:=rfl
 have h2:(Uq.builtin "type.__call__" args).frames=0:=rfl
 refine ⟨?_,rfl,?_,?_⟩
 ·unfold QE.under
  rw [h1];rfl
 ·show A.depth+Uq.weight _≤_
  have:(Uq.builtin "type.__call__" args).weight≤2:=by
   unfold Uq.weight
   rw [h2]
   have hg:(Uq.builtin "type.__call__" args).isGuard=false:=by show guardIds.contains "type.__call__"=false;decide
   have hk:(Uq.builtin "type.__call__" args).isCaller=false:=rfl
   rw [hg,hk]
   cases (Uq.builtin "type.__call__" args).isCreation<;>simp
  exact (cS (ag (aq aj (ae 2)) (aq (ak aa aj) (ak aa (ae 2))))) this
 ·show A.units+Uq.cUnits _≤_
  have:(Uq.builtin "type.__call__" args).cUnits=1:=by
   show 1+3*Uq.frames _=1
   rw [h2]
  exact (cS (ag (aH aj (ae 1)) (aq (ak aa aj) (ak aa (ae 4))))) this
theorem cG.make {A:QE}{n:Nat}{args:Args}(h:cG A (n+1)):cG (A.under (.builtin "type.__call__" args)) n:=by
 obtain ⟨_,k2,k3,k4⟩:=kj A args
 exact ⟨k2.trans h.1,by have:=h.2.1;exact (dC (ag (aq aa (ak az (ae 2))) (ag (aq (ak az (dO 4 (ak aj (ae 1)))) (ae 700)) (aq (ak aa (dO 4 aj)) (ae 700))))) k3 this,by have:=h.2.2;exact (dC (ag (aq aa (ak az (ae 4))) (ag (aq (ak az (dO 12 (ak aj (ae 1)))) (ae 6000)) (aq (ak aa (dO 12 aj)) (ae 6000))))) k4 this⟩
theorem FR.adopt {B:QL}{V:VI}{A:QE}{f:FD}{g:GM}{o:Qy→List Qt}{ρ:Rw}{b:Array UInt8}{s:Qs}(F:FR B V A f g o ρ b s) (as:List Qt) (hU:∀ a∈as,dh B V A f g o a∧∃ ob,s.heap.get? a=some ob):FR B V A f g (ll o as) ρ b s:=by
 have mem:∀ y a,a∈ll o as y→(y=bh∧a∈as)∨a∈o y:=fun y a h=>by
  unfold ll at h
  split at h
  ·rename_i q;subst q
   exact (i9 h).imp (fun h=>⟨rfl,h⟩) id
  ·exact .inr h
 have md:∀ a,Mod V f (ll o as) a→a∈as∨Mod V f o a:=fun a h=>by
  rcases h with h|h|⟨z,h⟩
  ·exact .inr (.inl h)
  ·exact .inr (.inr (.inl h))
  ·rcases mem z a h with ⟨_,h⟩|h
   ·exact .inl h
   ·exact .inr (.inr (.inr ⟨z,h⟩))
 refine { F with f9:=fun a h=>(md a h).elim (fun h=>(hU a h).1.g) (F.f9 a),mB:=fun a h=>(md a h).elim (fun h=>(hU a h).1.b) (F.mB a),live:=fun a h=>(md a h).elim (fun h=>(hU a h).2) (F.live a),dY:=fun y a h=>?_,cX:=fun y z q a h h'=>?_,ic:=fun y a h=>?_,vars:=fun y e h=>?_,cells:=fun y c h=>?_ }
 ·rcases mem y a h with ⟨_,h⟩|h
  ·exact ⟨(hU a h).1.fx,(hU a h).1.fp⟩
  ·exact F.dY y a h
 ·rcases mem y a h with ⟨q1,h⟩|h<;>rcases mem z a h' with ⟨q2,h'⟩|h'
  ·exact q (q1.trans q2.symm)
  ·exact (hU a h).1.o z h'
  ·exact (hU a h').1.o y h
  ·exact F.cX y z q a h h'
 ·rcases mem y a h with ⟨_,h⟩|h
  ·exact (hU a h).1.fr
  ·exact F.ic y a h
 ·have xd:y≠bh:=fQ F.eC h
  have:ll o as y=o y:=if_neg xd
  rw [this]
  exact F.vars y e h
 ·obtain ⟨c1,c2,c3,c4,c5,c6⟩:=F.cells y c h
  refine ⟨c1,c2,c3,c4,fun z hz=>?_,c6⟩
  rcases mem z c hz with ⟨_,hz⟩|hz
  ·exact (hU c hz).1.c y c h rfl
  ·exact c5 z hz
section
variable {X:Cx}{n:Nat}{sc:QM}{ρ af ay cN:Rw}{b ao b₂ eb:Array UInt8}
end
noncomputable def mD (o:Qy→List Qt) (a:Qt):Qy→List Qt:=fun y=>if y=bh then (o bh).filter (fun z=>z != a) else o y
theorem FR.qa {B:QL}{V:VI}{A:QE}{f:FD}{g:GM}{o:Qy→List Qt}{ρ:Rw}{b:Array UInt8}{s:Qs}{a:Qt}{ob:R3}(F:FR B V A f g o ρ b s) (ha:a∈o bh) (Em:s.heap.get? a=some ob) :
  FR B V A f (GM.add g a ob) (mD o a) ρ b s∧Step V A f g o s (GM.add g a ob) (mD o a) s:=by
 have ga:g a=none:=F.f9 a (.inr (.inr ⟨_,ha⟩))
 have iu:=GM.iR (g:=g) (a:=a) (ob:=ob) (.inl ga)
 have lD:∀ c,c≠a→GM.add g a ob c=g c:=fun c hc=>if_neg hc
 have mo:∀ y c,c∈mD o a y→c∈o y∧c≠a:=fun y c h=>by
  unfold mD at h
  split at h
  ·rename_i q
   subst q
   obtain ⟨h1,h2⟩:=jz h
   exact ⟨h1,by simpa using h2⟩
  ·rename_i q
   exact ⟨h,fun w=>F.cX y bh q c h (w▸ha)⟩
 have md:∀ c,Mod V f (mD o a) c→Mod V f o c∧c≠a:=fun c h=>by
  rcases h with h|h|⟨z,h⟩
  ·exact ⟨.inl h,fun z=>(F.dY _ a ha).1 (z▸h)⟩
  ·exact ⟨.inr (.inl h),fun z=>(F.dY _ a ha).2 (V.sub _ (z▸h))⟩
  ·exact ⟨.inr (.inr ⟨z,(mo z c h).1⟩),(mo z c h).2⟩
 refine ⟨{ F with bf:=fun c x q=>?_,lE:=fun c h=>?_,f9:=fun c h=>?_,mB:=fun c h=>F.mB c (md c h).1,live:=fun c h=>F.live c (md c h).1,dY:=fun y c h=>F.dY y c (mo y c h).1,cX:=fun y z q c h h'=>F.cX y z q c (mo y c h).1 (mo z c h').1,ic:=fun y c h=>F.ic y c (mo y c h).1,vars:=fun y e h=>?_,cells:=fun y c h=>?_ },
  ⟨.refl _ _ _,fun _ _ e=>⟨_,e⟩,iu,fun c q q'=>?_,fun y c h=>.inl ⟨y,(mo y c h).1⟩,rfl⟩⟩
 ·by_cases e:c=a
  ·subst e;cases ig GM.b7 q;exact Em
  ·rw [lD c e] at q;exact F.bf c x q
 ·rw [lD c fun z=>F.ic _ a ha (z▸h)];exact F.lE c h
 ·rw [lD c (md c h).2];exact F.f9 c (md c h).1
 ·obtain ⟨u,k1,k2⟩:=F.vars y e h
  have xd:y≠bh:=fQ F.eC h
  have:mD o a y=o y:=if_neg xd
  rw [this]
  exact ⟨u,k1,k2.mono iu fun _ _ _ q=>q⟩
 ·obtain ⟨c1,c2,c3,c4,c5,c6⟩:=F.cells y c h
  exact ⟨c1,c2,c3,c4,fun z hz=>c5 z (mo z c hz).1,c6⟩
 ·by_cases e:c=a
  ·subst e;exact .inl ⟨_,ha⟩
  ·rw [lD c e] at q';exact absurd q q'
theorem lS {o:Qy→List Qt}{a z:Qt}(h:z∈o bh) (cy:z≠a):z∈mD o a bh:=by
 unfold mD
 rw [if_pos rfl]
 exact Sx.mpr ⟨h,by simpa using cy⟩
section
variable {X:Cx}{n:Nat}{sc:QM}{ρ af ay cN:Rw}{b ao b₂ eb:Array UInt8}
theorem SE.p0 {e:QR}{c:Nat}{ds:List D}(h:SF X n sc e ρ b (.obj c ds) af ao):SE X n sc e ρ b (.inst c ds) af ao:=fun A f g o s Q E R aY F q=>by
 refine h A f g o s Q E R aY F fun v g' o' s' os F' S' ja he=>?_
 obtain ⟨a,dx,es,m,vs,sl,rfl,rfl,cy,ha,hd,hf,hr⟩:=he
 have ma:=ja a QB
 have md:=ja dx (by simp)
 obtain ⟨aA,aP⟩:=F'.qa ma.1 ha
 obtain ⟨aM,aO⟩:=aA.qa (lS md.1 (Ne.symm cy)) hd
 refine q (.ref a) _ _ s' aM ⟨S'.toStep.trans (aP.trans aO),fun z hz=>⟨?_,(S'.tk z hz).2⟩,S'.vk⟩ (.inst (aO.gm _ _ GM.b7) GM.b7 hf (hr.mono fun y ob k=>aO.gm _ _ (aP.gm y ob k)))
 have lv:∃ ob,s.heap.get? z=some ob:=F.live z (.inr (.inr ⟨_,hz⟩))
 obtain ⟨ob,lv⟩:=lv
 refine lS (lS (S'.tk z hz).1 fun w=>?_) fun w=>?_
 ·subst w;exact dP ma.2 lv
 ·subst w;exact dP md.2 lv
end
noncomputable def mY (h:QL):Prop:=∃ (nm q:Qy) (bs:List Qr) (sn:List Qy) (sub:List Qr) (ab:Bool) (col:Option Bool) (dd:Option Qt) (k0 k1 k2 k3 k5:Option Qr),h.get? 51=some (excClassObj nm q 51 50 bs (.ref 38::xJ) true sn sub ab col dd k0 k1 k2 k3 k5 "Exception.__new__")
section
variable {prog:Rn}{w:RE}{A:QE}{R:Result→Qs→Prop}{h:QL}{g:Array GenState}{d:S6}{t:Nat}{os:OsState}
abbrev c8 (tp:Qt):R3:={ cls:=.ref 51,data:=.fields #[.ref tp,.none,.none,.none,.bool false,.none] }
theorem xt {M:To}{E:Qr→Qs→Prop}{rest:List Qr}{Q:Unit→Qs→Prop}(hC:mY h) (hq:Q () ⟨h,g,d,t,os⟩) :
  QF M A (checkBuiltinCall "Exception.__new__" ⟨.ref 51::rest,[]⟩) Q E ⟨h,g,d,t,os⟩:=by
 obtain ⟨nm,q,bs,sn,sub,ab,col,dd,k0,k1,k2,k3,k5,hC⟩:=hC
 have F:=PySem.F.excBase_Exception
 have H8:(Qr.ref 51::.ref 38::xJ).contains (.type "Exception")=true:=av
 have ML:=F.noStar
 simp only [checkBuiltinCall,F.newKind,F.newSplit,F.newRow]
 repeat (first|refine Ru hC ?_|(refine R2 hC ?_;rw [H8])|refine wpAny_staticBase_exc hC ?_|refine UC hC ?_|simp only [bne_self_eq_false,S8,if_false]|wp_step)
 exact hq
theorem BB {rest:List Qr}(hC:mY h)
  (hq:R (.ok (.ret (.ref (h.objs.size+1)))) ⟨(h.push (lI rest)).push (c8 h.objs.size),g,d,t,os⟩) (gC:rest.length≤sizeLine) :
  RS (QJ prog w) A (.builtin "Exception.__new__" ⟨.ref 51::rest,[]⟩) R ⟨h,g,d,t,os⟩:=by
 obtain ⟨nm,q,bs,sn,sub,ab,col,dd,k0,k1,k2,k3,k5,hC⟩:=hC
 have F:=PySem.F.excBase_Exception
 have M5:=F.ends
 have Ex:(Qr.ref 51::.ref 38::xJ).contains (.type "Exception")=true:=av
 have OW:(Qr.ref 51::.ref 38::xJ).contains (.type "AttributeError")=false:=av
 have OT:(Qr.ref 51::.ref 38::xJ).contains (.type "NameError")=false:=av
 refine codeAny_builtinAt F.entry ?_
 unfold Builtin.«BaseException.__new__»
 refine PySem.wpAt_bind ?_
 show PySem.wpAt _ _ _ (stack>>=_) _ _ _
 refine PySem.wpAt_bind (PySem.wpAt_stack fun p below=>PySem.wpAt_of_wpAny ?_)
 wp_walk
 refine PySem.wpAt_of_wpAny ?_
 rw [F.owner]
 repeat (first|with_reducible refine wpAny_madeHere_exc F.canon hC ?_|with_reducible refine Ru hC ?_|(with_reducible refine R2 hC ?_;first|rw [Ex]|rw [OW]|rw [OT])|wp_step)
 show R _ _
 rw [Su]
 exact hq
theorem z4 {K:U3}{rest:List Qr}(X:K.In h) (hC:mY h) (hi:findIn K (.ref 51) "__init__"=some (some (.ref 35))) (hf:typeIn K (.ref 35)=some (.type "function")) (gC:rest.length≤sizeLine)
  (hq:RS (QJ prog w) (A.under (.builtin "type.__call__" ⟨.ref 51::rest,[]⟩)) (.call (.ref 35) ⟨.ref (h.objs.size+1)::rest,[]⟩) (InitBack (h.objs.size+1) R) ⟨(h.push (lI rest)).push (c8 h.objs.size),g,d,t,os⟩) :
  RS (QJ prog w) A (.call (.ref 51) ⟨rest,[]⟩) R ⟨h,g,d,t,os⟩:=by
 have Nu:=hC
 obtain ⟨nm,q,bs,sn,sub,ab,col,dd,k0,k1,k2,k3,k5,hC⟩:=hC
 have F:=PySem.F.excBase_Exception
 have f1:=tc_lookup
 have f2:=tc_bind (.ref 51)
 have hT:(⟨h,g,d,t,os⟩:Qs).TypeIs (.ref 51) "type":=⟨_,hC,rfl⟩
 refine Sq ?_
 show QF _ _ (callAny (.ref 51) _) _ _ _
 repeat (any_goals (first|assumption|with_reducible refine Ru hC ?_|wp_step))
 refine ⟨rfl,?_⟩
 refine codeAny_call_builtin_at (Uq.quiet_builtin _ (by decide +kernel)) entry_typeCall (wpAny_check_type_call_sub hC ?_)
 repeat (first|with_reducible refine Ru hC ?_|with_reducible refine UC hC ?_|wp_step)
 refine codeAny_call_builtin_code (Uq.quiet_builtin _ F.quiet) (xt Nu ?_)
 refine BB Nu ?_ gC
 show QF _ _ _ _ _ _
 have k:∀ b o,h.get? b=some o→((h.push (lI rest)).push (c8 h.objs.size)).get? b=some o:=fun b o e=>Qz _ (Qz _ e)
 have Ip:=k _ _ hC
 have Lb:((h.push (lI rest)).push (c8 h.objs.size)).get? (h.objs.size+1)=some (c8 h.objs.size):=by heap_get
 have OV:(Qr.ref 51::.ref 38::xJ).contains (.ref 51)=true:=av
 have i1:=(Ut (M:=QJ prog w) X hi).keeps k
 have b1:=(bind_fn (M:=QJ prog w) X (.ref (h.objs.size+1)) hf).keeps k
 unfold isInstance
 repeat (first|with_reducible refine Ru Lb ?_|wp_step)
 refine R2 (C:=51) Ip ?_
 rw [OV]
 repeat wp_step
 refine i1.here ?_
 refine Q0 (Qq ?_)
 refine b1.here ?_
 refine Qq (Sy ?_)
 refine TN hq fun r s' z=>?_
 rcases r with e|(v|_|_|_)<;>first|exact z|exact z.elim|skip
 obtain ⟨rfl,z⟩:=z
 exact Qv (Qv z)
theorem zU {e tp:Qt}{rest:List Qr}(hC:mY h) (he:h.get? e=some (c8 tp)) (gC:rest.length≤sizeLine)
  (hq:∀ h',(∀ b ob,b≠e→h.get? b=some ob→h'.get? b=some ob)→h'.get? e=some (c8 h.objs.size)→R (.ok (.ret .none)) ⟨h',g,d,t,os⟩) :
  RS (QJ prog w) A (.call (.builtin "Exception.__init__") ⟨.ref e::rest,[]⟩) R ⟨h,g,d,t,os⟩:=by
 obtain ⟨nm,q,bs,sn,sub,ab,col,dd,k0,k1,k2,k3,k5,hC⟩:=hC
 have F:=PySem.F.excBase_Exception
 have Ex:(Qr.ref 51::.ref 38::xJ).contains (.type "Exception")=true:=av
 have KL:=F.noStar
 refine Tc F.init.plain F.initEntry ?_
 have fin:∀ (Q:Unit→Qs→Prop) (E:Qr→Qs→Prop) A,Q () ⟨h,g,d,t,os⟩→QF (QJ prog w) A (checkBuiltinCall "Exception.__init__" ⟨.ref e::rest,[]⟩) Q E ⟨h,g,d,t,os⟩:=fun Q E A hq=>by
  simp only [checkBuiltinCall,F.initKind,F.initSplit,F.initRow]
  repeat (first|with_reducible refine Ru he ?_|(refine R2 (C:=51) hC ?_;rw [Ex])|wp_step)
  refine wpAny_onRaise ?_
  rw [show ∀ (a b:String) (n:Nat),Bind.check ⟨.positional,"*","Exception",.self,[⟨"args",.varPos,false⟩]⟩ a b n (map (fun x=>x.fst) ({ pos:=Qr.ref e::rest }:Args).kw)=pure () from
   fun a b n=>check_star_args _ _ _ _ _ _]
  exact Qv hq
 refine fin _ _ _ ?_
 wp_walk
 refine hq _ (fun b ob hb e1=>?_) ?_
 ·rw [QL.get?_update_ne _ _ _ _ hb]
  exact Qz _ e1
 ·rw [Rh _ (Qz _ he) rfl]
  rfl
theorem Bs {K:U3}{E:Qr→Qs→Prop}{e tp:Qt}{name:Qy}{v:Qr}{Q:Unit→Qs→Prop}(X:K.In h) (hC:mY h) (he:h.get? e=some (c8 tp)) (hs:findIn K (.ref 51) "__setattr__"=some (some (.builtin "object.__setattr__"))) (hn:findIn K (.ref 51) name=some none)
  (hq:∀ h' DB dx,(∀ b ob,b≠e→h.get? b=some ob→h'.get? b=some ob)→h'.get? e=some { c8 tp with dict:=some dx }→Q () ⟨h',g,d,DB,os⟩) :
  QF (QJ prog w) A (setAttr (.ref e) name v) Q E ⟨h,g,d,t,os⟩:=by
 obtain ⟨nm,q,bs,sn,sub,ab,col,dd,k0,k1,k2,k3,k5,hC⟩:=hC
 have SF:=PySem.F.store_Exception
 refine set_plain (od:=none) X ⟨he,rfl,rfl,trivial⟩ hs ?_
 have Ex:(Qr.ref 51::.ref 38::xJ).contains (.type "object")=true:=av
 have ha:=SF.args (.ref e) (.str name t) v
 refine Tc SF.slot.plain SF.entry ?_
 have fin:∀ (Q:Unit→Qs→Prop) (E:Qr→Qs→Prop) A tk,Q () ⟨h,g,d,tk,os⟩→QF (QJ prog w) A (checkBuiltinCall "object.__setattr__" ⟨[.ref e,.str name t,v],[]⟩) Q E ⟨h,g,d,tk,os⟩:=fun Q E A tk hq=>by
  simp only [checkBuiltinCall,SF.kind,SF.split]
  refine Qq ?_
  unfold isInstance
  repeat (first|with_reducible refine Ru he ?_|(refine R2 (C:=51) hC ?_;rw [Ex])|wp_step)
  cases Of:Manifest.signature? "object.__setattr__" with
  | none=>exact hq
  | some sig=>exact hq
 refine fin _ _ _ _ ?_
 have T:Looks (QJ prog w) h (typeOf (.ref e)) (.ref 51):=(Looks.ld he).andThen .now
 have Hm:Looks (QJ prog w) h (mroOf (.ref 51)) (.ref 51::.ref 38::xJ):=((Looks.ld (part:=none) hC).andThen .now).andThen .now
 rw [osa_eq,refuse_eq]
 refine Qq (Qq (T.here (Qq (Hm.here ?_))))
 rw [UP,UP,show xJ=[.type "Exception",.type "BaseException",.type "object"] from rfl,SF.passes]
 refine Qv (Qq (T.here (Qq ((Ut X hn).here (Qq (Qv ?_))))))
 show QF _ _ (Builtin.ObjectAttr.storeInOwnDict (.ref e) (.ref 51) (.str name t) name v false) _ _ _
 refine Qq (Qv (Qq (Qq (wpAny_loadPart he ?_))))
 have Lc:Looks (QJ prog w) h (classData 51) _:=(Looks.ld (part:=none) hC).andThen .now
 refine Qq (Lc.here ?_)
 dsimp only
 rw [if_neg av]
 have fI:(h.push { cls:=.type "dict",data:=.dict #[] }).get? e=some (c8 tp):=Qz _ he
 have Ar:e≠h.objs.size:=RO (Rt he)
 rw [if_neg (by simp [typeHasDict])]
 refine Qq (wpAny_alloc' (Qq (wpAny_update' fI (Qv ?_))))
 have OK:((h.push { cls:=.type "dict",data:=.dict #[] }).update e fun o=>{ cls:=o.cls,dict:=some h.objs.size,data:=o.data,slots:=o.slots }).get? h.objs.size
   = some { cls:=.type "dict",data:=.dict #[] }:=(QL.get?_update_ne _ _ _ _ Ar.symm).trans (QL.get?_push_at rfl rfl)
 have jb:((h.push { cls:=.type "dict",data:=.dict #[] }).update e fun o=>{ cls:=o.cls,dict:=some h.objs.size,data:=o.data,slots:=o.slots }).Ns h.objs.size (fun _=>none) :=
  ⟨_,#[],_,OK,rfl,fun e he=>absurd he (by simp),fun _=>rfl⟩
 show QF _ _ (Builtin.ObjectAttr.storeInDict h.objs.size (.str name t) name v) _ _ _
 unfold Builtin.ObjectAttr.storeInDict Builtin.ObjectAttr.newKeyGuard
 refine Qq (Qv (Qq (wpAny_nsSet1 (QL.Ns1.of_empty jb) fun h' si hs=>?_)))
 obtain ⟨oD,Qi,Qj,Ov,OS,OU⟩:=si.count (Within.cons name v Within.nil)
 refine Qq (wpAny_lookBehind Ov (by rw [OS];exact pastItsLine_dict (Qx OU (by rw [QC,QP,Rq];exact @J8))) ?_)
 refine Qv (hq h' _ h.objs.size (fun b ob hb e1=>?_) ?_)
 ·exact (hs.2 b (RO (Rt e1))).trans ((QL.get?_update_ne _ _ _ _ hb).trans (Qz _ e1))
 ·exact (hs.2 e Ar).trans (Rh _ fI rfl)
end
structure Ao (X:Cx):Prop where
 cls:mY X.B
 mA:findIn X.K (.ref 51) "__init__"=some (some (.ref 35))
 fn:typeIn X.K (.ref 35)=some (.type "function")
 Pz:findCls X.K (.type "Exception") (.type "type") "__init__"=some (.val (.builtin "Exception.__init__"))
 sa:findIn X.K (.ref 51) "__setattr__"=some (some (.builtin "object.__setattr__"))
 why:findIn X.K (.ref 51) cV=some none
 keep:keepIn X.K (.ref 51)=true
 glob:X.mg "Corrupt"=some (.ref 51)
theorem mY.keeps {h h':QL}(c:mY h) (k:∀ a ob,h.get? a=some ob→h'.get? a=some ob):mY h':=by
 obtain ⟨nm,q,bs,sn,sub,ab,col,dd,k0,k1,k2,k3,k5,hC⟩:=c
 exact ⟨nm,q,bs,sn,sub,ab,col,dd,k0,k1,k2,k3,k5,k _ _ hC⟩
section
variable {X:Cx}{n:Nat}{sc:QM}{b:Array UInt8}
theorem xS (Y:Ao X) {p1 p2 p3 p4 p5 p6 p7 p8 p9 F8:Rd}{A:QE}{f:FD}{g:GM}{o:Qy→List Qt}{s:Qs}{e tp:Qt}{w:Qy}{Q:Vr→Qs→Prop}{E:Qr→Qs→Prop}
  (hp:(p2.endLine==p5.line)=true) (hk:sc.names.lookup ("Exception":Qy)=some .globalImplicit) (R:cG A (n+1)) (aY:f.env.scope=sc) (F:FR X.B X.V A f g o [(cV,.val (.str w))] b s)
  (ho:o cV=[e]) (vE:(a9,.ref e)∈f.pin) (he:s.heap.get? e=some (c8 tp))
  (q:∀ BU dx s',FR X.B X.V A f g o [(cV,.val (.str w))] b s'→Step X.V A f g o s g o s'→s'.heap.get? e=some { c8 BU with dict:=some dx }→Q .next s') :
  QF (QJ X.prog X.w) A (Vl [.Expr (.Call (.Attribute (.Name "Exception" p1) "__init__" p2) [.Name a9 p3,.Name cV p4] [] p5) p6,.Assign [.Attribute (.Name a9 p7) cV p8] (.Name cV p9) F8] f.env) Q E s:=by
 have I9:okN a9=true:=av
 have I8:okN cV=true:=av
 have Jg:lk [(cV,En.val (.str w))] cV=some (.val (.str w)):=if_pos rfl
 have upd:∀ {s:Qs}{h':QL}{tk:Nat},FR X.B X.V A f g o [(cV,.val (.str w))] b s→(∀ a ob,a≠e→s.heap.get? a=some ob→h'.get? a=some ob)→(∃ ob,h'.get? e=some ob) →
   FR X.B X.V A f g o [(cV,.val (.str w))] b ⟨h',s.gens,s.drawn,tk,s.os⟩∧Step X.V A f g o s g o ⟨h',s.gens,s.drawn,tk,s.os⟩:=fun {s h' tk} F k l=>by
  obtain ⟨v,h1,h2⟩:=F.vars cV _ Jg
  have nL:f.env.locals≠e:=fun z=>(F.dY cV e (by rw [ho];exact QO.mpr rfl)).1 (z▸F.ib)
  obtain ⟨F',S'⟩:=F.tP (tk:=tk) (dr:=s.drawn) (h':=h') (e':=.val (.str w)) Jg h1 (fun a ob h _ q=>k a ob (fun z=>h (by rw [ho,z];exact QO.mpr rfl)) q) (fun m hn=>hn.at' fun ob q=>k _ ob nL q) (fun a h=>by rw [ho] at h;cases bq h;exact l) h2
  refine ⟨?_,S'.toStep⟩
  have:aS [(cV,En.val (.str w))] cV (.val (.str w))=[(cV,En.val (.str w))]:=if_pos rfl
  rwa [this] at F'
 refine R7 (TY ?_ (qS F.kind) rfl)
 refine di rfl rfl hp (Bl F (by rw [aY];exact hk) (X.blt ("Exception",.type "Exception") av).1 (X.blt ("Exception",.type "Exception") av).2 av fun pl=>?_)
 obtain ⟨mm,te⟩:=F.fr
 refine method_type (K:=X.K) te X.hK (by first|rfl|kernel_rfl) (by decide +kernel) Y.Pz rfl ?_
 obtain ⟨aA,aP⟩:=F.tok (s.toks+1)
 refine SJ rfl (Rv (S2 (Rb (aV aA.kind (aA.pin _ vE) (okN.d I9).2 ?_) (okN.d I9).1)))
 obtain ⟨v,h1,h2⟩:=aA.vars cV _ Jg
 refine S2 (Rb (aV aA.kind h1 (okN.d I8).2 (Tu ?_)) (okN.d I8).1)
 refine Sy (zU (h:=s.heap) (Y.cls.keeps F.bC) he (by show 1≤sizeLine;rw [Rq];exact @DW) fun h' k1 k2=>?_)
 obtain ⟨aM,aO⟩:=upd aA k1 ⟨_,k2⟩
 obtain ⟨NM,HA,_⟩:=aM.vars cV _ Jg
 refine R7 ?_
 refine RN (Rb (aV aM.kind HA (okN.d I8).2 (Rb (aV aM.kind (aM.pin _ vE) (okN.d I9).2 ?_) (okN.d I9).1)) (okN.d I8).1) rfl
 refine Bs (h:=h') (X.hK.keeps aM.bC) (Y.cls.keeps aM.bC) k2 Y.sa Y.why fun Iu tk dx k3 k4=>?_
 obtain ⟨cA,cO⟩:=upd aM k3 ⟨_,k4⟩
 exact Te (q _ dx _ cA ((aP.toStep.trans aO).trans cO) k4)
theorem xR {p1 p2 p3 p4 p5 p6 p7 p8 p9 F8:Rd}{fd:RD}(Y:Ao X) (hF:l8 X 35 fd sc [a9,cV] [.Expr (.Call (.Attribute (.Name "Exception" p1) "__init__" p2) [.Name a9 p3,.Name cV p4] [] p5) p6,.Assign [.Attribute (.Name a9 p7) cV p8] (.Name cV p9) F8])
  (hp:(p2.endLine==p5.line)=true) (hk:sc.names.lookup ("Exception":Qy)=some .globalImplicit) (hS:sc.names.lookup a9=some .local) (hW:sc.names.lookup cV=some .local)
  {A:QE}{f:FD}{g:GM}{o:Qy→List Qt}{ρ:Rw}{s:Qs}{e tp:Qt}{w:Qy}{v:Qr}{RR:Result→Qs→Prop}(R:cG A (n+2)) (F:FR X.B X.V A f g o ρ b s) (U:dh X.B X.V A f g o e) (he:s.heap.get? e=some (c8 tp)) (hv:Rep g X.V.obj v (.str w))
  (k:∀ s' BU dx,ef X.V A (·=e) g s g b s'→s'.heap.get? e=some { c8 BU with dict:=some dx }→RR (.ok (.ret .none)) s') :
  RS (QJ X.prog X.w) A (.call (.ref 35) ⟨[.ref e,v],[]⟩) RR s:=by
 obtain ⟨ob,ho,hd⟩:=hF.obj
 have aY:=hF.Fg
 refine Tp (fd:=fd) (vals:=[.ref e,v]) (binds:=[(a9,.ref e),(cV,v)]) R.d (F.bC _ _ ho) hd (X.lim.keeps F.bC) (hF.code.keeps F.bC) hF.body (hF.bind [.ref e,v] rfl) hF.FJ (fun p hp=>?_) (fun ah y=>?_) (aY▸hF.co) (aY▸hF.gen) (aY▸hF.kind)
 ·rw [aY]
  rcases bS hp with rfl|hp
  ·exact .inl hS
  ·cases bq hp;exact .inl hW
 ·generalize gD:callEnvC fd s.heap.objs.size 35=env at y ⊢
  have e1:env.scope=sc:=by rw [← gD];exact aY
  have e2:env.frame=some env.locals:=by rw [← gD];rfl
  have e3:env.globals=QY:=by rw [← gD];exact hF.glob
  have e4:env.builtins=Ra:=by rw [← gD];exact hF.blt
  have e5:env.cells=cellsFrom (s.heap.objs.size+1) sc.names []:=by rw [← gD,← aY];rfl
  have vM:∀ z,env.kindOf z=some .cell→(env.cells.lookup z).isSome=true:=fun z q=>by
   rw [e5]
   refine cellsFrom_some _ _ _ ?_
   rw [← e1];exact q
  have jb:([(a9,Qr.ref e),(cV,v)].map (·.1)).Nodup:=by show ([a9,cV]:List Qy).Nodup;decide
  have r7:env.kindOf a9=some .local:=by show env.scope.names.lookup a9=_;rw [e1];exact hS
  have Ht:env.kindOf cV=some .local:=by show env.scope.names.lookup cV=_;rw [e1];exact hW
  have uW:cI ah.heap env a9 (.ref e):=.inl ⟨r7,_,y.toInCall.ns,iA r7 _ _ jb rfl⟩
  have JO:cI ah.heap env cV v:=.inl ⟨Ht,_,y.toInCall.ns,iA Ht _ _ jb rfl⟩
  let o0:Qy→List Qt:=fun z=>if z=cV then [e] else []
  have Mr:o0 cV=[e]:=if_pos rfl
  have Aq:∀ z a,a∈o0 z→z=cV∧a=e:=fun z a h=>by
   by_cases q:z=cV
   ·subst q;rw [Mr] at h;exact ⟨rfl,bq h⟩
   ·rw [show o0 z=[] from if_neg q] at h;cases h
  have aA:FR X.B X.V (A.deeper env) (bB env [(a9,.ref e)]) g o0 [(cV,.val (.str w))] b ah:=by
   refine F.enter y e2 (by rw [e1];exact hF.kind) ⟨e3,e4⟩ vM (fun z d hy=>?_) (fun z a h=>?_) (fun z z' Kt a h h'=>Kt ((Aq z a h).1.trans (Aq z' a h').1.symm)) rfl (fun p h=>by cases bq h;exact uW)
   ·change ite _ _ _=_ at hy
    split at hy
    ·rename_i q
     cases hy
     subst q
     exact ⟨v,JO,hv⟩
    ·cases hy
   ·obtain ⟨_,rfl⟩:=Aq z a h
    exact ⟨⟨_,he⟩,U.g,U.b,U.fr,U.fp⟩
  have pZ:=y.toInCall.keep _ _ he
  refine xS Y hp hk R.deeper e1 aA Mr (QO.mpr rfl) pZ fun BU dx s' F' S' h'=>?_
  have C:=ef.qz F y e2 F' S'
  have hw:∀ a,(∃ z,a∈o0 z)→a=e:=fun a ⟨z,h⟩=>(Aq z a h).2
  exact k s' BU dx ⟨C.kept.weaken (fun a _ _ h=>h.imp id (hw a)) (fun a _ _ h=>.inl h),C.iW,C.gens,C.os,C.gm,fun a q q'=>(C.gn a q q').imp (hw a) id,C.bf,C.view⟩ h'
end
theorem zL {B h base:QL}:∀ {l:List TU},(∀ env∈l,env.scope.kind=.function∧∃ L ob,env.frame=some L∧h.get? L=some ob∧(∃ es n,ob.data=.dict es n)∧B.get? L=none)→(∀ env∈l,∀ a,env.frame=some a→base.get? a=none)→h.FunFrames base l
 | [],_,_=>trivial
 | env::l,k,q=>by
  obtain ⟨k1,L,ob,k2,k3,⟨es,m,k4⟩,_⟩:=k env QB
  refine ⟨by rw [k1];exact fun z=>(nomatch z),?_,zL (B:=B) (fun e he=>k e (QD _ he)) fun e he=>q e (QD _ he)⟩
  exact ⟨L,ob,k2,q env QB L k2,k3,fun vs z=>by rw [k4] at z;cases z⟩
section
variable {M:To}{A:QE}{E:Qr→Qs→Prop}
theorem pn {s:Qs}{x:Sem Qr}{env:TU}{Q:Vr→Qs→Prop}(hh:A.handled=none)
  (h:QF M A x (fun v ah=>∃ e t dx,v=.ref e∧mY ah.heap∧ah.heap.get? e=some { c8 t with dict:=some dx }∧E (.ref e) ah) E s) :
  QF M A (raiseStmt env (some x) none) Q E s:=by
 have Ex:(Qr.ref 51::.ref 38::xJ).contains (.type "BaseException")=true:=av
 unfold raiseStmt
 refine Qq (Q7 h (fun v ah h₁=>?_) fun _ _ x=>x)
 obtain ⟨e,t,dx,rfl,⟨nm,q,bs,sn,sub,ab,col,dd,k0,k1,k2,k3,k5,hC⟩,he,hE⟩:=h₁
 obtain ⟨hp,g,d,tk,os⟩:=ah
 repeat (first|with_reducible refine Ru he ?_|with_reducible refine Ru hC ?_|(refine R2 (C:=51) hC ?_;rw [Ex])|wp_step)
 exact wpAny_raiseNew_none hh hE
end
section
variable {X:Cx}{n:Nat}{sc sc':QM}{ρ af:Rw}{b ao:Array UInt8}
theorem zK {e:QR}(cv:∀ env,QS [e] env=[(false,eval e env)]) {env:TU}:QS [e] env=(false,eval e env)::QS [] env:=by rw [cv];rfl
theorem S1.raise {p1 p2 p3 p4 p5 p6 p7 p8 p9 F8 np zZ pos:Rd}{fd:RD}{e:QR}{w:Qy}(Y:Ao X) (hF:l8 X 35 fd sc' [a9,cV] [.Expr (.Call (.Attribute (.Name "Exception" p1) "__init__" p2) [.Name a9 p3,.Name cV p4] [] p5) p6,.Assign [.Attribute (.Name a9 p7) cV p8] (.Name cV p9) F8])
  (hp:(p2.endLine==p5.line)=true) (hk:sc'.names.lookup ("Exception":Qy)=some .globalImplicit) (hS:sc'.names.lookup a9=some .local) (hW:sc'.names.lookup cV=some .local)
  (he:SE X (n+3) sc e ρ b (.str w) af ao) (hc:autoParam (sc.names.lookup ("Corrupt":Qy)=some .globalImplicit) bG) (cv:autoParam (∀ env,QS [e] env=[(false,eval e env)]) cw) :
  S1 X (n+3) sc (.Raise (some (.Call (.Name "Corrupt" np) [e] [] zZ)) none pos) ρ b (.exc ao):=fun A f g o s Q E R aY I F k=>by
 rw [arm_exec_Raise]
 have hs:rh X (n+3) sc [e] ρ b [.str w] af ao:=au he aF (fun env=>by rw [cv];rfl)
 show QF _ _ (do standAt pos;raiseStmt f.env (some (do let v ← eval (.Call (.Name "Corrupt" np) [e] [] zZ) f.env;standAt pos;pure v)) none) Q E s
 refine Qq (Q2 (pn R.1 (Qq (Q7 (Q:=fun v ah=>∃ e t dx,v=.ref e∧mY ah.heap∧ah.heap.get? e=some { c8 t with dict:=some dx }∧E (.ref e) ah) (E:=E) ?_ (fun v b4 gB=>Qq (Q2 (Qv gB))) fun _ _ x=>x))))
 refine RG (Gl F (by rw [aY];exact hc) Y.glob av (callWith_K (K:=X.K) (h₀:=X.B) X.hK Y.keep ?_ (zK cv) rfl))
 refine hs zZ A f g o s _ E R aY F fun vs aE aN ah aA aP aW=>⟨X.hK.keeps aA.bC,Sy ?_⟩
 obtain ⟨v,rfl,rv⟩:=aW.wi
 obtain ⟨hh,gg,dr,tk,os⟩:=ah
 refine z4 (K:=X.K) (X.hK.keeps aA.bC) (Y.cls.keeps aA.bC) Y.mA Y.fn (by show 1≤sizeLine;rw [Rq];exact @DW) ?_
 generalize Bj:A.under (.builtin "type.__call__" ⟨.ref 51::([]++[v]),[]⟩)=A'
 obtain ⟨u1,u2,u3,u4⟩:=kj A ⟨.ref 51::([]++[v]),[]⟩
 have R':cG A' (n+2):=Bj▸R.make
 have n8:A'.frames=A.frames:=Bj▸u1
 have IF:fL A'=fL A:=by unfold fL;rw [n8]
 have kk:∀ a ob,hh.get? a=some ob→((hh.push (lI [v])).push (c8 hh.objs.size)).get? a=some ob:=fun a ob e=>Qz _ (Qz _ e)
 obtain ⟨aM,aO⟩:=aA.keeps (tk:=tk) (dr:=dr) kk
 have hex:((hh.push (lI [v])).push (c8 hh.objs.size)).get? (hh.objs.size+1)=some (c8 hh.objs.size):=by
  have z1:(hh.push (lI [v])).objs.size=hh.objs.size+1:=Su ..
  rw [← z1];exact QN _ rfl
 have Eo:hh.get? (hh.objs.size+1)=none:=get_none (Tv _)
 have Ux:=dh.fresh aA Eo
 refine xR Y hF hp hk hS hW R' (aM.around n8) { Ux with fr:=by rw [IF];exact Ux.fr } hex rv fun s' BU dx C h'=>?_
 have hw:∀ a ob,hh.get? a=some ob→a≠hh.objs.size+1:=fun a ob e z=>by rw [z,Eo] at e;cases e
 have P:eW X.V A aE ⟨hh,gg,dr,tk,os⟩ aE ao s' :=
  ⟨⟨fun a ob e p r=>C.kept.keep a ob (kk a ob e) (fun h=>h.elim p (hw a ob e)) (by rw [IF];exact r),fun a ob e p=>C.kept.slot a ob (kk a ob e) fun h=>h.elim p (hw a ob e)⟩,fun a ob e=>C.iW a ob (kk a ob e),C.gens,C.os,C.gm,fun a e e'=>absurd e e',C.bf,C.view⟩
 have cA:=aA.after P
 have BH:=P.mq aA
 refine ⟨rfl,_,BU,dx,rfl,Y.cls.keeps cA.bC,h',?_⟩
 obtain ⟨outer,hA,OD⟩:=cA.da
 have HU:∀ env∈outer,∀ a,env.frame=some a→a∈fL A:=fun env he a hf=>by
  unfold fL;rw [hA];exact Ss.mpr ⟨env,he,hf⟩
 refine k _ _ ⟨aE,_,hideAll s'.heap ((hh.objs.size+1)::fL A),.ref BU,rfl,cA.forget,(aP.toStep.trans BH.toStep).forget,⟨fun a ob q=>of_hideAll _ q,Ve _ QB,fun l hl=>?_,.inl ⟨_,_,h',rfl,rfl,rfl,rfl⟩,fun a ha hq=>?_⟩⟩
 ·cases ig hA hl
  exact zL (B:=X.B) OD fun env he a hf=>Ve _ (QD _ (HU env he a hf))
 ·have lv:∃ ob,hh.get? a=some ob:=by
   rcases hq with ⟨ob,hq⟩|hq
   ·exact aP.iW a ob hq
   ·cases q:aE a with
    | none=>exact absurd q hq
    | some ob=>exact ⟨ob,aA.bf a ob q⟩
  obtain ⟨ob,lv⟩:=lv
  obtain ⟨b0,My⟩:=P.iW a ob lv
  rw [My]
  refine hideAll_get _ My fun h=>?_
  rcases bS h with h|h
  ·exact hw a ob lv h
  ·exact ha h
end
noncomputable def wa (x:Qr) (h:QL):Prop:=∃ e base a0 fl,x=.ref e∧h.TracedAtW base e (.ref 51) a0 fl
section
variable {X:Cx}{n:Nat}{sc:QM}{ρ af:Rw}{b ao:Array UInt8}
theorem XP.lands {M:To}{A A':QE}{f:FD}{g:GM}{o:Qy→List Qt}{s s':Qs}{x:Qr}{Q:Unit→Qs→Prop}{E:Qr→Qs→Prop}{LY:Array UInt8}(I:mX A f) (ly:FR X.B X.V A f g o ρ LY s) (P:XP X A f g o s ao x s') (hT:wa x s'.heap)
  (h:∀ dG,XP X A f g o s ao x dG→wa x dG.heap→Q () dG):QF M A' (setFlight x none) Q E s':=by
 obtain ⟨g',e,base,a0,rfl,F,S,Y⟩:=P
 obtain ⟨⟨outer,n8⟩,hf,Fz,Jo⟩:=I
 obtain ⟨e',v5,JJ,Nx,qO,hT⟩:=hT
 cases qO
 obtain ⟨fl,hX⟩:=Y.st.xZ hT
 exact wpAny_setFlight_noneW Y.stays (Y.frames _ n8) hX fun h' k1 k2 k3 k4=>h _ (XP.moved ly F S Y k1 (fun l hl=>by cases ig n8 hl;exact k2) (.inr (.inl k3)) fun c ob q hn=>⟨ob.slots,k4 c ob q hn⟩) ⟨e,base,a0,_,rfl,k3.at⟩
theorem S1.tw {body:List Rr}{h:ExceptHandler}{pos:Rd}{d:D}(hb:SS X n sc body ρ b (.ret d af ao)):S1 X n sc (.Try body [h] [] [] pos) ρ b (.ret d af ao):=fun A f g o s Q E R aY I F k =>
 UD (hb A f g o s _ _ R aY I F fun v g' o' s' F' S' r=>k v g' o' s' F' S' r)
theorem S1.xY {body:List Rr}{np cp rp hp pos:Rd}{w:Qy}{kk:Nat}(Y:Ao X) (hb:SS X n sc body ρ b (.exc ao)) (hc:autoParam (sc.names.lookup ("Corrupt":Qy)=some .globalImplicit) bG) :
  S1 X n sc (.Try body [.ExceptHandler (some (.Name "Corrupt" np)) none [.Return (some (.Constant (.str w) kk cp)) rp] hp] [] [] pos) ρ b (.ret (.str w) [] ao):=fun A f g o s Q E R aY I F k=>by
 refine UD (hb A f g o s _ _ R aY I F fun x s' P=>P.C7 I F fun bk L7 hT=>hide fun H kH=>?_)
 obtain ⟨e,base,a0,rfl,hT⟩:=hT
 refine kH (L7.lands I F ⟨e,base,a0,_,rfl,hT⟩ fun b4 IP Ig=>hide fun uS k₁=>?_)
 obtain ⟨g',e',v5,JJ,qO,F',S',Y'⟩:=id IP
 cases qO
 have mk:FR X.B X.V (A.mark (some (.ref e))) f g' oN [] ao b4:=F'.around rfl
 obtain ⟨nm,q,bs,sn,sub,ab,col,dd,k0,k1,k2,k3,k5,hC⟩:=Y.cls.keeps F'.bC
 obtain ⟨oe,vs,z1,z2,z3⟩:=Y'.st.there
 refine k₁ (wpAny_handleBy_cons (codeAny_handlers_test (Gl mk (by rw [aY];exact hc) Y.glob av (wpAny_excMatches_sub_self hC z1 z2 av (codeAny_handlers_suite (IP.lands I F Ig fun cq L6 Nc=>R7 (Tt (Um (hide fun lx k₂=>?_)))))))) (fun q=>nomatch q))
 obtain ⟨LH,Py,JI,PO,so,fz,fS,je⟩:=L6
 obtain ⟨l9,kB⟩:=fz.tok (cq.toks+1)
 exact k₂ (k (.str w cq.toks) LH oN { cq with toks:=cq.toks+1 } l9 (fS.trans kB.toStep) (.str w _))
end
noncomputable def lZ:List Qy:=["kind","block","most","bonus"]
structure oL (K:U3):Prop where
 set:kG K 416 fY 335
 dn:kG K 317 lZ 314
 qB:∀ p∈uX,mE K 416 p.1 p.2
structure bj where
 v:Qt
 vd:Qt
 dn:Qt
 oc:Qt
 m:Qt
 md:Qt
structure rg (prog:Rn) (w:RE) (P:bj) (h:QL) (b:Array UInt8):Prop where
 Dq:[P.v,P.vd,P.dn,P.oc,P.m,P.md].Nodup
 low:(P.dn==sysModules)=false
 v:h.get? P.v=some (RT 416 P.vd)
 vd:∃ es n sh t,h.get? P.vd=some (Sv es n)∧FieldsAt fY es [sh,.ref P.dn,.ref P.oc,.int 1 t]
 dn:h.DictOf (intKind prog w) P.dn [(1,.ref P.m)]
 oc:∃ t,h.DictOf (intKind prog w) P.oc [(1,.bytes b t)]
 m:h.get? P.m=some (RT 317 P.md)
 md:∃ es n k t most bo,h.get? P.md=some (Sv es n)∧FieldsAt lZ es [k,.int 256 t,most,bo]
noncomputable def AK (P:bj):Nat→Option Qt
 | 0=>some P.v
 | 1=>some P.m
 | 2=>some P.dn
 | 3=>some P.oc
 | _=>none
theorem gT {K:Type} [DecidableEq K] {prog:Rn}{w:RE}{knd:KeyKind prog w K}{h:QL}{a:Qt}{Jh:List (K×Qr)} (d:h.DictOf knd a Jh):∃ o,h.get? a=some o:=by
 obtain ⟨o,e,_⟩:=SP.mp d;exact ⟨o,e⟩
theorem fM {K:Type} [DecidableEq K] {prog:Rn}{w:RE}{knd:KeyKind prog w K}{h h':QL}{a:Qt}{Jh:List (K×Qr)} (d:h.DictOf knd a Jh) (k:∀ o,h.get? a=some o→h'.get? a=some o):h'.DictOf knd a Jh:=by
 obtain ⟨o,e,r⟩:=SP.mp d;exact SP.mpr ⟨o,k o e,r⟩
noncomputable def e9 (prog:Rn) (w:RE) (P:bj):VI where
 obj:=AK P
 mt:=[P.oc,P.md]
 fp:=[P.v,P.vd,P.dn,P.oc,P.m,P.md]
 sub:=gU Bb (gU Jj AA)
 R:=rg prog w P
 lfp:=fun h b r=>gU ⟨_,r.v⟩ (gU (by obtain ⟨_,_,_,_,e,_⟩:=r.vd;exact ⟨_,e⟩) (gU (gT r.dn) (gU (r.oc.elim fun _ e=>gT e) (gU ⟨_,r.m⟩ (gU (by obtain ⟨_,_,_,_,_,_,e,_⟩:=r.md;exact ⟨_,e⟩) AA)))))
 fj:=fun h h' b r k=>by
  refine ⟨r.Dq,r.low,k _ (.head _) _ r.v,?_,fM r.dn (k _ Dd),?_,k _ in4 _ r.m,?_⟩
  ·obtain ⟨es,n,sh,t,e,f⟩:=r.vd;exact ⟨es,n,sh,t,k _ in1 _ e,f⟩
  ·obtain ⟨t,e⟩:=r.oc;exact ⟨t,fM e (k _ Bb)⟩
  ·obtain ⟨es,n,kk,t,most,bo,e,f⟩:=r.md;exact ⟨es,n,kk,t,most,bo,k _ Jj _ e,f⟩
section
variable {B:QL}{V:VI}{A:QE}{f:FD}{g:GM}{o:Qy→List Qt}{ρ:Rw}{b b':Array UInt8}{s:Qs}
theorem FR.AJ {h':QL}{tk:Nat}(F:FR B V A f g o ρ b s) (k:∀ a ob,a∉V.mt→s.heap.get? a=some ob→h'.get? a=some ob) (l:∀ a∈V.mt,∃ ob,h'.get? a=some ob) (r:V.R h' b') :
  FR B V A f g o ρ b' ⟨h',s.gens,s.drawn,tk,s.os⟩∧bK V A f g o s g o ⟨h',s.gens,s.drawn,tk,s.os⟩:=by
 have P:eW V A g s g b' ⟨h',s.gens,s.drawn,tk,s.os⟩ :=
  ⟨⟨fun a ob e p _=>k a ob p e,fun a ob e p=>⟨ob.slots,k a ob p e⟩⟩,fun a ob e=>(Decidable.em (a∈V.mt)).elim (l a) fun h=>⟨ob,k a ob h e⟩,F.gens,rfl,fun _ _ e=>e,fun a e e'=>absurd e e',
   fun a ob e=>k a ob (fun h=>by exact dP (F.f9 a (.inr (.inl h))) e) (F.bf a ob e),r⟩
 exact ⟨F.after P,P.mq F⟩
end
section
variable {X:Cx}{n:Nat}{sc:QM}{ρ af ay cN:Rw}{b ao b₂ eb:Array UInt8}{P:bj}
theorem BS (hV:X.V=e9 X.prog X.w P) {A:QE}{f:FD}{g:GM}{o:Qy→List Qt}{s:Qs}(F:FR X.B X.V A f g o ρ b s):rg X.prog X.w P s.heap b:=by
 have:=F.view
 rw [hV] at this;exact this
theorem rz (hV:X.V=e9 X.prog X.w P) {g:GM}{v:Qr}{k:Nat}(r:Rep g X.V.obj v (.ext k)):∃ a,v=.ref a∧AK P k=some a:=by
 have h:=r.inv
 rw [hV] at h;exact h
theorem FU (hV:X.V=e9 X.prog X.w P) {g:GM}{k:Nat}{a:Qt}(h:AK P k=some a):Rep g X.V.obj (.ref a) (.ext k):=.ext (by rw [hV];exact h)
theorem SE.qg {value:QR}{pos:Rd}{nm:Qy}{k:Nat}(hV:X.V=e9 X.prog X.w P) (Y:oL X.K) (hv:SE X n sc value ρ b (.ext 0) af ao) (hk:(nm="dnodes"∧k=2)∨(nm="octets"∧k=3)) (hb:autoParam (∀ env w,attributeBase value nm env w=w) qq) :
  SE X n sc (.Attribute value nm pos) ρ b (.ext k) af ao:=fun A f g o s Q E R aY F q=>by
 rw [RQ,hb]
 refine Qq (hv A f g o s _ E R aY F fun v aE aN ah aA aP aW=>Qq (Q2 (Qq (Q0 ?_))))
 obtain ⟨a,rfl,ha⟩:=rz hV aW
 cases ha
 have V:=BS hV aA
 obtain ⟨es,m,sh,t,e1,e2⟩:=V.vd
 obtain ⟨aM,aO⟩:=aA.tok (ah.toks+1)
 obtain ⟨mm,Fr⟩:=aA.fr
 have nd:fY.Nodup:=av
 obtain ⟨j,a,h1,h2,h3⟩:∃ j a,fY[j]?=some nm∧AK P k=some a∧([sh,Qr.ref P.dn,Qr.ref P.oc,Qr.int 1 t]:List Qr)[j]?=some (Qr.ref a):=by
  rcases hk with ⟨rfl,rfl⟩|⟨rfl,rfl⟩
  ·exact ⟨1,P.dn,rfl,rfl,rfl⟩
  ·exact ⟨2,P.oc,rfl,rfl,rfl⟩
 obtain ⟨c1,attr,c2,c3⟩:=Y.set.get nm (Q1 h1)
 exact Vd (K:=X.K) (C:=416) (es:=es) (n:=m) Fr X.hK ⟨V.v,rfl,rfl,e1⟩ c1 Y.set.dict c2 c3 (iN e2 h1 nd h3) rfl (Qq (Rz (Qv (q _ aE aN _ aM (aP.trans aO) (FU hV h2)))))
theorem SE.uK {value:QR}{pos:Rd}(hV:X.V=e9 X.prog X.w P) (Y:oL X.K) (hv:SE X n sc value ρ b (.ext 1) af ao) (hb:autoParam (∀ env w,attributeBase value "block" env w=w) qq) :
  SE X n sc (.Attribute value "block" pos) ρ b (.int 256) af ao:=fun A f g o s Q E R aY F q=>by
 rw [RQ,hb]
 refine Qq (hv A f g o s _ E R aY F fun v aE aN ah aA aP aW=>Qq (Q2 (Qq (Q0 ?_))))
 obtain ⟨a,rfl,ha⟩:=rz hV aW
 cases ha
 have V:=BS hV aA
 obtain ⟨es,m,kk,t,most,bo,e1,e2⟩:=V.md
 obtain ⟨aM,aO⟩:=aA.tok (ah.toks+1)
 obtain ⟨mm,Fr⟩:=aA.fr
 have nd:lZ.Nodup:=av
 have h1:lZ[1]?=some ("block":Qy):=rfl
 obtain ⟨c1,attr,c2,c3⟩:=Y.dn.get "block" (Q1 h1)
 exact Vd (K:=X.K) (C:=317) (es:=es) (n:=m) Fr X.hK ⟨V.m,rfl,rfl,e1⟩ c1 Y.dn.dict c2 c3 (iN e2 h1 nd rfl) rfl (Qq (Rz (Qv (q _ aE aN _ aM (aP.trans aO) (.int 256 t)))))
theorem r9 (t:UN):(intKind X.prog X.w).is 1 (.int 1 t)=true:=by show Qr.isInt 1 (.int 1 t)=true;simp [Qr.isInt]
theorem ST.DY {l r:QR}{pos:Rd}(hV:X.V=e9 X.prog X.w P) (hl:SE X n sc l ρ b (.int 1) af ao) (hr:SE X n sc r af ao (.ext 2) ay b₂) (hm:autoParam (behindInMarks .NotIn r=false) wy) :
  ST X n sc (.Compare l [.NotIn] [r] pos) ρ b false ay b₂:=fun A f g o s Q E R hs F h =>
 Sw (hl A f g o s _ E R hs F fun v aE aN ah aA aP aW=>hr A f aE aN ah _ E R hs aA fun u bl cx bk aM aO bt=>by
  obtain ⟨a,rfl,ha⟩:=rz hV bt
  cases ha
  obtain ⟨t,rfl⟩:=aW.bZ
  have V:=BS hV aM
  obtain ⟨cA,cO⟩:=aM.tok (bk.toks+1)
  exact wpAny_notIn_of (r9 t) V.low V.dn.mapOf (Se (h bl cx _ cA ((aP.trans aO).trans cO)))) hm
theorem SE.Eb {value slice:QR}{pos:Rd}(hV:X.V=e9 X.prog X.w P) (hv:SE X n sc value ρ b (.ext 2) af ao) (hi:SE X n sc slice af ao (.int 1) ay b₂)
  (hs:autoParam (∀ o i,∃ ops,subscripted slice false o i=operate ops (getItem o i)) DD):SE X n sc (.Subscript value slice pos) ρ b (.ext 1) ay b₂ :=
 SE.nD hv hi (fun A f g o s Q E v u R F aW bt q=>by
  obtain ⟨a,rfl,ha⟩:=rz hV aW
  cases ha
  obtain ⟨t,rfl⟩:=bt.bZ
  have V:=BS hV F
  obtain ⟨cA,cO⟩:=F.tok (s.toks+1)
  exact ⟨"dict",_,V.dn.typeIs,Uu.lookup,UE (r9 t) V.dn.mapOf rfl (q _ g o _ cA cO (FU hV rfl))⟩) hs
theorem SE.ud {value slice:QR}{pos:Rd}(hV:X.V=e9 X.prog X.w P) (hv:SE X n sc value ρ b (.ext 3) af ao) (hi:SE X n sc slice af ao (.int 1) ay b₂)
  (hs:autoParam (∀ o i,∃ ops,subscripted slice false o i=operate ops (getItem o i)) DD):SE X n sc (.Subscript value slice pos) ρ b (.bytes b₂) ay b₂ :=
 SE.nD hv hi (fun A f g o s Q E v u R F aW bt q=>by
  obtain ⟨a,rfl,ha⟩:=rz hV aW
  cases ha
  obtain ⟨t,rfl⟩:=bt.bZ
  have V:=BS hV F
  obtain ⟨tb,V3⟩:=V.oc
  obtain ⟨cA,cO⟩:=F.tok (s.toks+1)
  exact ⟨"dict",_,V3.typeIs,Uu.lookup,UE (r9 t) V3.mapOf rfl (q _ g o _ cA cO (.bytes _ tb))⟩) hs
theorem S1.F0 {tv idx value:QR}{tp pos:Rd}{bs:Array UInt8}(hV:X.V=e9 X.prog X.w P) (hv:SE X n sc value ρ b (.bytes bs) af ao) (ht:SE X n sc tv af ao (.ext 3) ay b₂) (hi:SE X n sc idx ay b₂ (.int 1) cN eb)
  (hs:autoParam (∀ env,swapsWith value (some (.Subscript tv idx tp)) pos.line env=pure false) cw):S1 X n sc (.Assign [.Subscript tv idx tp] value pos) ρ b (.next cN bs):=fun A f g o s Q E R aY I F q=>by
 refine S4 (hv A f g o s _ E R aY F fun v aE aN ah aA aP aW=>ht A f aE aN ah _ E R aY aA fun P2 bl cx bk aM aO bt=>hi A f bl cx bk _ E R aY aM fun u gO kn b4 cA cO qu=>?_) (hs _)
 obtain ⟨a,rfl,ha⟩:=rz hV bt
 cases ha
 obtain ⟨tb,rfl⟩:=aW.fA
 obtain ⟨t,rfl⟩:=qu.bZ
 have V:=BS hV cA
 obtain ⟨NO,V3⟩:=V.oc
 refine T8 (r9 t) V3 (fun h' oV mC=>?_) (by show 1≤sizeLine;rw [Rq];exact @DW)
 have Er:X.V.mt=[P.oc,P.md]:=by rw [hV];rfl
 have Dq:=V.Dq
 simp only [RH,R1,RB,or_false,not_or,U8,and_true,not_false_eq_true] at Dq
 obtain ⟨⟨d1,d2,d3,d4,d5⟩,⟨d6,d7,d8,d9⟩,⟨PL,Qo,Qn⟩,⟨PK,PJ⟩,Qm⟩:=Dq
 have k:∀ a ob,a≠P.oc→b4.heap.get? a=some ob→h'.get? a=some ob:=fun a ob h e=>mC.extBut a ob h e
 have V':rg X.prog X.w P h' bs:=by
  refine ⟨V.Dq,V.low,k _ _ d3 V.v,?_,fM V.dn fun o=>k _ o PL,⟨tb,?_⟩,k _ _ (Ne.symm PK) V.m,?_⟩
  ·obtain ⟨es,m,sh,t,e,fl⟩:=V.vd;exact ⟨es,m,sh,t,k _ _ d7 e,fl⟩
  ·have:stored [((1:Int),Qr.bytes eb NO)] 1 (.bytes bs tb)=[(1,.bytes bs tb)]:=by rfl
   rwa [this] at oV
  ·obtain ⟨es,m,kk,t,most,bo,e,fl⟩:=V.md;exact ⟨es,m,kk,t,most,bo,k _ _ (Ne.symm PJ) e,fl⟩
 obtain ⟨fz,fS⟩:=cA.AJ (h':=h') (tk:=b4.toks+1) (b':=bs) (fun a ob h e=>k a ob (fun z=>h (by rw [Er,z];exact QB)) e) (fun a h=>by
  rw [Er] at h
  rcases bS h with rfl|h
  ·exact gT oV
  ·cases bq h
   obtain ⟨_,_,_,_,_,_,e,_⟩:=V'.md;exact ⟨_,e⟩) (by rw [hV];exact V')
 exact q gO kn _ fz ((aP.trans aO).trans (cO.trans fS)).toStep
end
section
variable {B:QL}{V:VI}{A:QE}{f:FD}{g:GM}{o:Qy→List Qt}{ρ:Rw}{b b':Array UInt8}{s:Qs}
theorem FR.rt {h':QL}{tk:Nat}{dr:S6}(F:FR B V A f g o ρ b s) (k:∀ a ob,a∉V.mt→a≠f.env.locals→s.heap.get? a=some ob→h'.get? a=some ob) (hL:∀ m,s.heap.Ns f.env.locals m→h'.Ns f.env.locals m) (l:∀ a∈V.mt,∃ ob,h'.get? a=some ob) (r:V.R h' b') :
  FR B V A f g o ρ b' ⟨h',s.gens,dr,tk,s.os⟩∧bK V A f g o s g o ⟨h',s.gens,dr,tk,s.os⟩:=by
 have nL:∀ a,a∉f.fx→a≠f.env.locals:=fun a h z=>h (z▸F.ib)
 have gL:g f.env.locals=none:=F.f9 _ (.inl F.ib)
 have lL:∃ ob,h'.get? f.env.locals=some ob∧∃ es n,ob.data=.dict es n:=by
  obtain ⟨m,hn⟩:=F.kE
  obtain ⟨ob,es,ep,e,d,_⟩:=hL m hn
  exact ⟨ob,e,es,ep,d⟩
 have om:∀ x a,a∈o x→a∉V.mt:=fun x a h z=>(F.dY x a h).2 (V.sub _ z)
 have cl:∀ y c,f.env.cells.lookup y=some c→∀ ov,s.heap.IsCell c ov→h'.IsCell c ov:=fun y c hc ov ⟨ob,e,hd⟩=>⟨ob,k c ob (fun h=>(F.cells y c hc).c4 (V.sub _ h)) (F.cells y c hc).c1 e,hd⟩
 have kg:∀ a ob,g a=some ob→h'.get? a=some ob:=fun a ob q=>k a ob (fun h=>by exact dP (F.f9 a (.inr (.inl h))) q) (fun z=>by rw [z,gL] at q;cases q) (F.bf a ob q)
 have alive:∀ a ob,s.heap.get? a=some ob→∃ b0,h'.get? a=some b0:=fun a ob q=>(Decidable.em (a∈V.mt)).elim (l a) fun h=>(Decidable.em (a=f.env.locals)).elim (fun e=>by subst e;exact ⟨_,lL.choose_spec.1⟩) fun e=>⟨ob,k a ob h e q⟩
 refine ⟨{ F with bC:=fun a ob q=>k a ob (fun h=>by have:=F.mB a (.inr (.inl h));rw [q] at this;cases this) (fun z=>by have:=F.mB a (.inl (z▸F.ib));rw [q] at this;cases this) (F.bC a ob q),gens:=F.gens,bf:=kg,live:=fun a h=>?_,view:=r,vars:=fun y e h=>?_,kE:=?_,cells:=fun y c hc=>?_,da:=F.da.slot fun a h ob q=>?_,pin:=fun p hp=>(F.pin p hp).move hL (cl p.1) },
  ⟨⟨⟨fun a ob q p _=>k a ob (fun h=>p (.inr (.inl h))) (fun z=>p (.inl (z▸F.ib))) q,fun a ob q p=>⟨ob.slots,k a ob (fun h=>p (.inr (.inl h))) (fun z=>p (.inl (z▸F.ib))) q⟩⟩,alive,fun _ _ e=>e,fun a e e'=>absurd e e',fun y a h=>.inl ⟨y,h⟩,rfl⟩,fun a h=>⟨h,fun ob q=>k a ob (om _ a h) (nL a (F.dY _ a h).1) q⟩,fun y v h=>h.move hL (cl y)⟩⟩
 ·obtain ⟨ob,q⟩:=F.live a h
  exact alive a ob q
 ·obtain ⟨u,h1,h2⟩:=F.vars y e h
  exact ⟨u,h1.move hL (cl y),h2.mono (fun _ _ z=>z) fun a ha ob z=>k a ob (om _ a ha) (nL a (F.dY _ a ha).1) z⟩
 ·obtain ⟨m,hn⟩:=F.kE
  exact ⟨m,hL m hn⟩
 ·have K:=F.cells y c hc
  exact { K with c2:=K.c2.elim fun v h=>⟨v,cl y c hc v h⟩ }
 ·by_cases e:a=f.env.locals
  ·subst e
   obtain ⟨b0,e1,e2⟩:=lL
   exact ⟨b0,e1,fun _=>e2⟩
  ·exact ⟨ob,k a ob (fun z=>F.ry a (V.sub _ z) h) e q,fun h=>h⟩
end
section
variable {X:Cx}{n:Nat}{sc:QM}{ρ af ay cN:Rw}{b ao b₂ eb:Array UInt8}{P:bj}
theorem S1.AQ {x:Qy}{np tp pos:Rd}{value:QR}{d:D}(hV:X.V=e9 X.prog X.w P) (Y:oL X.K) (hv:SE X n sc value ρ b d af ao) (hx:lk af x=some (.val (.ext 1))) (hn:autoParam (okN x=true) bG)
  (hs:autoParam (∀ env,swapsWith value (some (.Attribute (.Name x np) "most" tp)) pos.line env=pure false) cw):S1 X n sc (.Assign [.Attribute (.Name x np) "most" tp] value pos) ρ b (.next af ao):=fun A f g o s Q E R aY I F q=>by
 refine RN (hv A f g o s _ E R aY F fun v aE aN ah aA aP aW=>?_) (hs _)
 obtain ⟨w',h1,h2⟩:=aA.vars x _ hx
 obtain ⟨a,rfl,ha⟩:=rz hV h2
 cases ha
 refine Rb (aV aA.kind h1 (okN.d hn).2 ?_) (okN.d hn).1
 have V:=BS hV aA
 obtain ⟨es,m,kk,t,most,bo,e1,e2⟩:=V.md
 obtain ⟨mm,te⟩:=aA.fr
 obtain ⟨news,N,gN,jb⟩:=nk X.B ah.heap f.env.locals
 have Er:X.V.mt=[P.oc,P.md]:=by rw [hV];rfl
 have sk:X.V.fp=[P.v,P.vd,P.dn,P.oc,P.m,P.md]:=by rw [hV];rfl
 have Li:P.md≠f.env.locals:=fun z=>aA.uu _ (z▸aA.ib) (by rw [sk];exact Jj)
 have hB:X.B.get? P.md=none:=aA.mB _ (.inr (.inl (by rw [Er];exact in1)))
 have hk:lZ[2]?=some ("most":Qy):=rfl
 have nd:lZ.Nodup:=av
 obtain ⟨pQ,U,HT,vH⟩:=uY (od':=Sv (putL "most" (QG.keyHash X.w.params "most") (.str "most" (ah.toks+1)) v es) (putN "most" es m)) (gN P.md _ e1 hB Li) jb
 have lB:=kv e2
 refine Vn (K:=X.K) (C:=317) (dx:=P.md) (es:=es) (n:=m) (es':=putL "most" (QG.keyHash X.w.params "most") (.str "most" (ah.toks+1)) v es) (n':=putN "most" es m) te X.hK N ⟨V.m,rfl,rfl,e1⟩ rfl Y.dn.sa Y.dn.over (Y.dn.tk "most" (Q1 hk)) Y.dn.dict ?_ rfl U ?_ fun h' sr N'=>?_
 ·exact jE e2 "most"
 ·have:=nJ "most" (QG.keyHash X.w.params "most") (.str "most" (ah.toks+1)) v es
  have h4:lZ.length=4:=rfl
  exact (ji (ag (dB (aH aj az) (aq az a7)) (ag (aq aa (ak aj (ae 1))) (ag (aH a7 (ae 4)) (aq aa (ae 1000)))))) lB this h4
 ·have MB:∀ y ob,y≠P.md→y≠f.env.locals→ah.heap.get? y=some ob→h'.get? y=some ob:=fun y ob hy hL e=>by
   cases eB:X.B.get? y with
   | some b0 =>
    have:=aA.bC y b0 eB
    cases ig e this
    exact sr.keep y _ eB
   | none=>exact (N' _ (HT _ (gN y ob e eB hL) hy)).1
  have oV:=(N' _ vH).1
  have dm:∀ y∈[P.v,P.vd,P.dn,P.oc,P.m],y≠P.md:=fun y h=>(Th.mp (show ([P.v,P.vd,P.dn,P.oc,P.m]++[P.md]).Nodup from V.Dq)).2.2 y h _ QB
  have nL:∀ a∈X.V.fp,a≠f.env.locals:=fun a h z=>aA.uu _ (z▸aA.ib) h
  have k:∀ a ob,a∈X.V.fp→a≠P.md→ah.heap.get? a=some ob→h'.get? a=some ob:=fun a ob h h2 e=>MB a ob h2 (nL a h) e
  have V':rg X.prog X.w P h' ao:=by
   refine ⟨V.Dq,V.low,k _ _ (by rw [sk];exact .head _) (dm _ (.head _)) V.v,?_,fM V.dn fun o=>k _ o (by rw [sk];exact Dd) (dm _ Dd),?_,k _ _ (by rw [sk];exact in4) (dm _ in4) V.m,?_⟩
   ·obtain ⟨es,m,sh,t,e,fl⟩:=V.vd;exact ⟨es,m,sh,t,k _ _ (by rw [sk];exact in1) (dm _ in1) e,fl⟩
   ·obtain ⟨tb,e⟩:=V.oc;exact ⟨tb,fM e fun o=>k _ o (by rw [sk];exact Bb) (dm _ Bb)⟩
   ·exact ⟨_,_,kk,t,v,bo,oV,ku e2 _ _ v hk nd (show 2≤4 by decide)⟩
  obtain ⟨aM,aO⟩:=aA.rt (tk:=ah.toks+2) (dr:=ah.drawn) (h':=h') (b':=ao) (fun a ob h hL e=>MB a ob (fun z=>h (by rw [Er,z];exact in1)) hL e) (fun m' si=>by rw [Ns.uniq si te.ns];exact sr.ns) (fun a h=>by
   rw [Er] at h
   rcases bS h with rfl|h
   ·obtain ⟨_,e⟩:=V'.oc;exact gT e
   ·cases bq h;exact ⟨_,oV⟩) (by rw [hV];exact V')
  exact q aE aN _ aM (aP.toStep.trans aO.toStep)
theorem SE.fU {value:QR}{name:Qy}{apos pos:Rd}{args:List QR}{fn:Qt}{ds:List D}{d:D}(hV:X.V=e9 X.prog X.w P) (Y:oL X.K) (hv:SE X n sc value ρ b (.ext 0) af ao) (ha:rh X n sc args af ao ds ay b₂) (hm:(name,fn)∈uX) (hM:cb X n fn (.ext 0::ds) b₂ (.ok d eb))
  (Au:autoParam (name∉fY) bG) (dS:autoParam ((apos.endLine==pos.line)=true) bG) (zE:autoParam (∀ env,attributeBase value name env (eval value env)=eval value env) cw)
  (qN:autoParam (∀ env,((backTo pos (QS args env)).all (fun x=>!x.1)&&(backToKw pos (keywordEach [] env)).all (fun x=>x.1.isSome)&&decide (args.length+([]:List Keyword).length+(if ([]:List Keyword).isEmpty then 0 else 1)<30))=true) cw)
  (cv:autoParam (∀ env,(backTo pos (QS args env)).any (·.1)=false) cw) (cy:autoParam (∀ env,∃ t rest,backTo pos (QS args env)=(false,t)::rest) IZ) :
  SE X n sc (.Call (.Attribute value name apos) args [] pos) ρ b d ay eb:=fun A f g o s Q E R aY F q=>by
 refine di (zE _) (qN _) dS (hv A f g o s _ E R aY F fun v aE aN ah aA aP aW pl=>?_)
 obtain ⟨a,rfl,O0⟩:=rz hV aW
 cases O0
 have V:=BS hV aA
 obtain ⟨es,m,sh,t,e1,e2⟩:=V.vd
 obtain ⟨mm,te⟩:=aA.fr
 have K:=Y.qB _ hm
 refine UI (K:=X.K) (C:=416) (es:=es) (n:=m) te X.hK ⟨V.v,rfl,rfl,e1⟩ K.get K.find K.fn (jF e2 Au) ?_
 refine Tz (P:=X.K.In) (by show ((backTo pos (QS args f.env)).any (·.1)||false)=false;rw [cv];rfl) (UL K.keep) ?_
 have Ie:=ha pos A f aE aN ah
 obtain ⟨tt,rr,et⟩:=cy f.env
 rw [et] at Ie ⊢
 refine Rv (Ie _ E R aY aA fun vs bl cx bk aM aO bt=>⟨X.hK.keeps aM.bC,hM A f bl cx _ bk _ Q E R aM (.cons (aW.mono aO.gm) bt) fun v g' s' C rv=>q v g' cx s' (aM.after C) ((aP.trans aO).trans (C.mq aM)) rv⟩)
end
section
variable {prog:Rn}{w:RE}{A:QE}{E:Qr→Qs→Prop}{s:Qs}{Q:Qr→Qs→Prop}
theorem z6:typeLookup (.type "bytes") "__bytes__"=pure (some (.builtin "bytes.__bytes__")):=by rw [SN,Sd];kernel_rfl
theorem qJ:typeLookup (.type "int") "__bytes__"=pure Option.none:=by rw [SN,Sd];kernel_rfl
theorem int_index:typeLookup (.type "int") "__index__"=pure (some (.builtin "int.__index__")):=by rw [SN,Sd];kernel_rfl
theorem mV {b:Array UInt8}{t:UN}(hQ:Q (.bytes b t) s):QF (QJ prog w) A (call (.type "bytes") [.bytes b t]) Q E s:=by
 refine UQ (Q₁:=fun obj ah=>ah.TypeIs obj "bytes"∧Q obj ah) PySem.F.bm_called (PySem.F.bm_typeCall _) PySem.F.entry_object_init ?_ fun obj ah h₁=>?_
 ·refine Sq ?_
  show QF _ A.in1.in1 (do checkBuiltinCall "bytes.__new__" ⟨[.type "bytes",.bytes b t],[]⟩;again (.builtin "bytes.__new__" ⟨[.type "bytes",.bytes b t],[]⟩)) _ _ s
  refine Qq (Q4 (PySem.F.bm_newCall _) (Qv ⟨SM PySem.F.bm_plain _,RZ PySem.F.bm_entry ?_⟩))
  rw [QE.under_plainId PySem.F.bm_plain _]
  have hT:s.TypeIs (.bytes b t) "bytes":=PySem.W.typeIs_bytes _ _ _
  unfold Builtin.«bytes.__new__»
  refine Qq (Q4 (a:=true) rfl ?_)
  refine Sz rfl ?_
  refine Qq (Q4 PySem.F.bm_sub ?_)
  refine Sz rfl ?_
  refine Qq (Q4 (PySem.F.bm_bind _) ?_)
  refine Qq (Q4 (a:=()) rfl ?_)
  refine Qq (Q4 (a:=()) rfl ?_)
  refine Sz rfl ?_
  refine Qq (Tf hT z6 ?_)
  refine Qq (SO ?_)
  refine Qq (Q4 (a:=.type "bytes") rfl ?_)
  refine UR rfl ?_
  refine UR rfl ?_
  exact Qv ⟨hT,hQ⟩
 ·exact ⟨h₁.1,PySem.F.args_object_init_2 obj _,Uv PySem.F.bm_called.init.lookup PySem.F.bm_called.made av prog w A.in1 _ ah ⟨h₁.1,rfl,h₁.2⟩⟩
theorem l6 {i:Int}{t:UN}(h0:0≤i) (hz:i≤1000000) (hQ:∀ t k,Q (.bytes (Array.replicate i.toNat 0) t) { s with toks:=k }):QF (QJ prog w) A (call (.type "bytes") [.int i t]) Q E s:=by
 refine UQ (Q₁:=fun obj ah=>ah.TypeIs obj "bytes"∧Q obj ah) PySem.F.bm_called (PySem.F.bm_typeCall _) PySem.F.entry_object_init ?_ fun obj ah h₁=>?_
 ·refine Sq ?_
  show QF _ A.in1.in1 (do checkBuiltinCall "bytes.__new__" ⟨[.type "bytes",.int i t],[]⟩;again (.builtin "bytes.__new__" ⟨[.type "bytes",.int i t],[]⟩)) _ _ s
  refine Qq (Q4 (PySem.F.bm_newCall _) (Qv ⟨SM PySem.F.bm_plain _,RZ PySem.F.bm_entry ?_⟩))
  rw [QE.under_plainId PySem.F.bm_plain _]
  have hT:s.TypeIs (.int i t) "int":=rfl
  unfold Builtin.«bytes.__new__»
  refine Qq (Q4 (a:=true) rfl ?_)
  refine Sz rfl ?_
  refine Qq (Q4 PySem.F.bm_sub ?_)
  refine Sz rfl ?_
  refine Qq (Q4 (PySem.F.bm_bind _) ?_)
  refine Qq (Q4 (a:=()) rfl ?_)
  refine Qq (Q4 (a:=()) rfl ?_)
  refine Sz rfl ?_
  refine Qq (Tf hT qJ ?_)
  refine Qq (Q4 (a:=false) rfl ?_)
  refine Sz rfl ?_
  refine Qq (Tf hT int_index ?_)
  refine Sz rfl ?_
  refine Qq (S9 ?_)
  refine Q4 (a:=i) rfl ?_
  dsimp only
  rw [if_neg (show ¬ (!Builtin.Bytes.fitsIndex i)=true by rw [show Builtin.Bytes.fitsIndex i=true from Vc h0 (by exact (wb (ag (bM (aJ 0) bc) (ag (bM bc (aJ 1000000)) (cU bc (aJ (2 ^ 63)))))) h0 hz)];decide),if_neg (show ¬ i<0 by exact (wb (ag (bM (aJ 0) bc) (ag (bM bc (aJ 1000000)) (bI (cU bc (aJ 0)))))) h0 hz),if_neg (show ¬ i > 2 ^ 63-34 by exact (wb (ag (bM (aJ 0) bc) (ag (bM bc (aJ 1000000)) (bI (cU (fy (aJ (2 ^ 63)) (aJ 34)) bc))))) h0 hz),if_neg (show ¬ Builtin.Bytes.tooLong i.toNat=true by rw [KBy.tooLong_not (show i.toNat≤16777216 by exact Mo h0 hz)];decide)]
  refine Qq (SO (Qq (wpAny_mkBytes ?_ ?_)))
  ·refine UR rfl ?_
   exact Qv ⟨PySem.W.typeIs_bytes _ _ _,hQ _ _⟩
  ·rw [SA,Rq];exact Mo h0 hz
 ·exact ⟨h₁.1,PySem.F.args_object_init_2 obj _,Uv PySem.F.bm_called.init.lookup PySem.F.bm_called.made av prog w A.in1 _ ah ⟨h₁.1,rfl,h₁.2⟩⟩
end
section
variable {X:Cx}{n:Nat}{sc:QM}{ρ af ay cN:Rw}{b ao b₂ eb:Array UInt8}
theorem SE.Af {l r:QR}{pos:Rd}{x y:Array UInt8}(hl:SE X n sc l ρ b (.bytes x) af ao) (hr:SE X n sc r af ao (.bytes y) ay b₂) (hz:x.size+y.size≤1000000):SE X n sc (.BinOp l .Add r pos) ρ b (.bytes (x++y)) ay b₂ :=
 SE.bin hl hr fun A f g o s Q E v u R F aW bt q=>by
  obtain ⟨t,rfl⟩:=aW.fA
  obtain ⟨t',rfl⟩:=bt.fA
  refine KBy.add_bytes (Qx hz av) fun t k=>?_
  obtain ⟨F',S'⟩:=F.tok k
  exact q _ g o _ F' S' (.bytes _ _)
theorem SE.rd {np pos:Rd}{e:QR}{x:Array UInt8}(he:SE X n sc e ρ b (.bytes x) af ao) (hk:autoParam (sc.names.lookup ("bytes":Qy)=some .globalImplicit) bG) (cv:autoParam (∀ env,QS [e] env=[(false,eval e env)]) cw) :
  SE X n sc (.Call (.Name "bytes" np) [e] [] pos) ρ b (.bytes x) af ao:=fun A f g o s Q E R aY F q=>by
 refine b5 (T:="bytes") av R aY F (au he aF (fun env=>by rw [cv];rfl)) hk av (ui cv) fun vs aE aN ah aA aP r=>?_
 obtain ⟨_,rfl,r1⟩:=r.wi
 obtain ⟨t,rfl⟩:=r1.fA
 exact mV (q _ aE aN _ aA aP (.bytes _ t))
theorem SE.uI {np pos:Rd}{e:QR}{i:Int}(he:SE X n sc e ρ b (.int i) af ao) (h0:0≤i) (hz:i≤1000000) (hk:autoParam (sc.names.lookup ("bytes":Qy)=some .globalImplicit) bG) (cv:autoParam (∀ env,QS [e] env=[(false,eval e env)]) cw) :
  SE X n sc (.Call (.Name "bytes" np) [e] [] pos) ρ b (.bytes (Array.replicate i.toNat 0)) af ao:=fun A f g o s Q E R aY F q=>by
 refine b5 (T:="bytes") av R aY F (au he aF (fun env=>by rw [cv];rfl)) hk av (ui cv) fun vs aE aN ah aA aP r=>?_
 obtain ⟨_,rfl,r1⟩:=r.wi
 obtain ⟨t,rfl⟩:=r1.bZ
 refine l6 h0 hz fun t k=>?_
 obtain ⟨F',S'⟩:=aA.tok k
 exact q _ aE aN _ F' (aP.trans S') (.bytes _ t)
theorem SE.max2 {np pos:Rd}{e u:QR}{i j:Int}(he:SE X n sc e ρ b (.int i) af ao) (hu:SE X n sc u af ao (.int j) ay b₂) (hk:autoParam (sc.names.lookup ("max":Qy)=some .globalImplicit) bG) (cv:autoParam (∀ env,QS [e,u] env=[(false,eval e env),(false,eval u env)]) cw) (HD:autoParam (∀ env,QS [u] env=[(false,eval u env)]) cw) :
  SE X n sc (.Call (.Name "max" np) [e,u] [] pos) ρ b (.int (if j > i then j else i)) ay b₂:=fun A f g o s Q E R aY F q=>by
 refine j8 (T:="max") av R aY F (au he (au hu aF (fun env=>by rw [HD];rfl)) (fun env=>by rw [cv,HD])) hk av (fun env=>by rw [cv];exact ⟨_,_,rfl,rfl⟩) fun vs aE aN ah aA aP r=>?_
 obtain ⟨_,_,rfl,r1,r2⟩:=r.JS
 obtain ⟨t,rfl⟩:=r1.bZ
 obtain ⟨t',rfl⟩:=r2.bZ
 refine max_two_ints R.1 fun h' tk hk=>?_
 obtain ⟨F',S'⟩:=aA.keeps (tk:=tk) (dr:=ah.drawn) hk
 refine q _ aE aN _ F' (aP.trans S') ?_
 split<;>exact .int _ _
end
structure i6 (X:Cx) (a:Qt) (fd:RD) (sc:QM) (names:List Qy) (body:List Rr) (k:Nat) (dv:List Qr):Prop where
 obj:∃ o,X.B.get? a=some o∧o.data=.func fd
 code:X.B.CodeRec fd.code fd.qualname
 Fg:fd.scope=sc
 body:fd.body=.stmts body
 bind:∀ vs:List Qr,vs.length=k→∀ s:Qs,X.K.In s.heap→BindsTo s fd ⟨vs,[]⟩ (names.zip (vs++dv))
 FJ:fd.closure=[]
 co:sc.isCoroutine=false
 gen:sc.isGenerator=false
 kind:sc.kind=.function
 glob:fd.globals=QY
 blt:fd.builtins=Ra
structure Lib0 (X:Cx):Prop where
 fn:∀ (k:Nat) e,vS[k]?=some e→∃ fd,l8 X e.1 fd (aw e.2.1) e.2.2 (bodyOf e.2.1)
 gf:∀ (k:Nat) p,su[k]?=some p→X.mg p.1=some (.ref p.2)
 gi:∀ (k:Nat) p,oh[k]?=some p→∃ t,X.mg p.1=some (.int p.2 t)
 cur:∃ fd,i6 X 107 fd (aw (bO (top 10) 0)) ["self","octets","at"] (bodyOf (bO (top 10) 0)) 3 []
structure cP (X:Cx) (P:bj):Prop extends Lib0 X where
 V:X.V=e9 X.prog X.w P
 Y:oL X.K
 FI:Ao X
section
variable {X:Cx}{P:bj}{n:Nat}{b:Array UInt8}
theorem bV {a:Qt}{fd:RD}{sc:QM}{names:List Qy}{body:List Rr}{ds:List D}{b':Array UInt8}{d:D}{ρ':Rw}(hF:l8 X a fd sc names body) (hl:ds.length=names.length) (hN:o8 sc names=true)
  (h:SS X n sc body (names.zip (ds.map En.val)) b (.ret d ρ' b')):cb X (n+1) a ds b (.ok d b'):=cb.intro hF hl hN h
theorem cb.Kg {a:Qt}{fd:RD}{sc:QM}{names:List Qy}{body:List Rr}{ds:List D}{b':Array UInt8}{ρ':Rw}(hF:l8 X a fd sc names body) (hl:ds.length=names.length) (hN:o8 sc names=true)
  (h:SS X n sc body (names.zip (ds.map En.val)) b (.next ρ' b')):cb X (n+1) a ds b (.ok .none b'):=cb.intro hF hl hN h
theorem cb.exc {a:Qt}{fd:RD}{sc:QM}{names:List Qy}{body:List Rr}{ds:List D}{b':Array UInt8}(hF:l8 X a fd sc names body) (hl:ds.length=names.length) (hN:o8 sc names=true)
  (h:SS X n sc body (names.zip (ds.map En.val)) b (.exc b')):cb X (n+1) a ds b (.exc b'):=cb.intro hF hl hN h
theorem nh (L:cP X P):cb X (n+1) 356 [.ext 0,.int 1] b (.ok (.ext 1) b):=by
 obtain ⟨fd,hF⟩:=L.fn 24 _ rfl
 exact bV hF rfl av (aG (S1.kI (ST.DY L.V (ai rfl) (SE.qg L.V L.Y (ai rfl) (.inl ⟨rfl,rfl⟩))) bX)
  (bF (bN (SE.Eb L.V (SE.qg L.V L.Y (ai rfl) (.inl ⟨rfl,rfl⟩)) (ai rfl)))))
noncomputable def yw (b:Array UInt8) (at_ many:Int):Array UInt8:=KBy.picked b (some at_) (some (at_+many))++Array.replicate (many-(KBy.picked b (some at_) (some (at_+many))).size).toNat 0
theorem DL (L:cP X P) {at_ many:Int}(h0:0≤at_) (h1:0≤many) (hz:b.size≤1000000) (hp:((KBy.picked b (some at_) (some (at_+many))).size:Int)≤many) (hm:many≤1000) :
  cb X (n+2) 370 [.ext 0,.int 1,.int at_,.int many] b (.ok (.bytes (yw b at_ many)) b):=by
 obtain ⟨fd,hF⟩:=L.fn 25 _ rfl
 have e0:decide (at_<0)=false:=by simpa using h0
 have e1:decide (many<0)=false:=by simpa using h1
 have hs:(KBy.picked b (some at_) (some (at_+many))).size≤1000:=by exact (xC (ag (bM (aJ 0) bc) (ag (bM (aL aa) bc) (ag (bM bc (aJ 1000)) (aq aa (ae 1000)))))) h1 hp hm
 exact bV hF rfl av (aG (dI (SE.fU L.V L.Y (ai rfl) (au (ai rfl) aF) (.head _) (nh L))) (aG (S1.kI (ST.J4 (cg (ai rfl) aC (e0▸aQ.ltI)) fun _=>(cg (ai rfl) aC (e1▸aQ.ltI))) bX)
  (aG (cj (SE.rd (SE.o7 (SE.ud L.V (SE.qg L.V L.Y (ai rfl) (.inr ⟨rfl,rfl⟩)) (ai rfl)) (.some (ai rfl)) (.some (cZ (ai rfl) (ai rfl))) hz)))
   (bF (bN (SE.Af (ai rfl) (SE.uI (SE.sub (ai rfl) (SE.pd (ai rfl) (Qx hs av))) ((xC (ag (bM (aL aa) bc) (bM (aJ 0) (fy bc (aL aa))))) hp) ((xC (ag (bM (aJ 0) bc) (ag (bM bc (aJ 1000)) (ag (aq aa (ae 1000)) (bM (fy bc (aL aa)) (aJ 1000000)))))) h1 hm hs)) (by rw [SA];exact (Lq 1 1 [gk (fy bc (aL aa))] (ag (bM (aJ 0) bc) (ag (bM bc (aJ 1000)) (ag (aq aa (ae 1000)) (aq (ak aa aj) (ae 1000000)))))) h1 hm hs)))))))
noncomputable def fZ (k:Int):Int:=(k+256-1).fdiv 256*256
theorem AS (L:cP X P) {k:Int}:cb X (n+1) 300 [.int k,.int 256] b (.ok (.int (fZ k)) b):=by
 obtain ⟨fd,hF⟩:=L.fn 23 _ rfl
 exact bV hF rfl av (bF (bN (dH (gK (SE.sub (cZ (ai rfl) (ai rfl)) aC) (ai rfl) av av) (ai rfl) (.of_right (PySem.intBits_le_64 av av)))))
noncomputable def tO (x:Array UInt8):Array UInt8:=x++Array.replicate (fZ x.size-x.size).toNat 0
theorem F6 (L:cP X P) {x:Array UInt8}(hz:x.size≤500000) (h0:0≤fZ x.size-x.size) (h1:fZ x.size-x.size≤256):cb X (n+2) 399 [.ext 0,.int 1,.bytes x] b (.ok .none (tO x)):=by
 obtain ⟨fd,hF⟩:=L.fn 26 _ rfl
 obtain ⟨EK,hR⟩:=L.fn 23 _ rfl
 exact cb.Kg hF rfl av (aG (cj (SE.fU L.V L.Y (ai rfl) (au (ai rfl) aF) (.head _) (nh L)))
  (aG (cj (bp (L.gf 19 _ rfl) hR (au (SE.pd (ai rfl) (Qx hz av)) (au (SE.uK L.V L.Y (ai rfl)) aF)) (AS L)))
  (aG (S1.F0 L.V (SE.Af (ai rfl) (SE.uI (SE.sub (ai rfl) (SE.pd (ai rfl) (Qx hz av))) h0 ((xC (ag (bM (aJ 0) (fy bc (aL aa))) (ag (bM (fy bc (aL aa)) (aJ 256)) (bM (fy bc (aL aa)) (aJ 1000000))))) h0 h1)) (by rw [SA];exact (Lq 1 1 [gk (fy bc (aL aa))] (ag (aq aa (ae 500000)) (ag (bM (aJ 0) (fy bc (aL aa))) (ag (bM (fy bc (aL aa)) (aJ 256)) (aq (ak aa aj) (ae 1000000)))))) hz h0 h1)) (SE.qg L.V L.Y (ai rfl) (.inr ⟨rfl,rfl⟩)) (ai rfl))
  (aG (S1.AQ L.V L.Y (SE.sub (gK (ai rfl) (SE.uK L.V L.Y (ai rfl)) av av) aC) rfl) bX))))
noncomputable def iw (b:Array UInt8) (at_:Int):Array UInt8:=b++Array.replicate (if at_-b.size > 0 then at_-b.size else 0).toNat 0
noncomputable def fi (b:Array UInt8) (at_:Int) (x:Array UInt8):Array UInt8:=KBy.picked (iw b at_) none (some at_)++x++KBy.picked (iw b at_) (some (at_+x.size)) none
theorem qo {k:Nat}:0≤fZ k-k∧fZ k-k≤256:=by
 unfold fZ
 rw [Int.fdiv_eq_ediv_of_nonneg _ av]
 exact (Lq 0 3 [] (ag (cu (cn (L.Z.w 2) (BL 256 mW)) (fy (cn bc (aJ 256)) (aJ 1))) (ag (bM (aJ 0) (L.Z.w 2)) (ag (cU (L.Z.w 2) (aJ 256)) (dB (bM (aJ 0) (fy (E7 mW 256) bc)) (bM (fy (E7 mW 256) bc) (aJ 256))))))) (Int.emod_add_mul_ediv _ _) (Int.emod_nonneg _ av) (Int.emod_lt_of_pos _ av)
theorem AI (L:cP X P) {at_:Int}{x:Array UInt8}(hb:b.size≤100000) (h0:0≤at_) (h1:at_≤100000) (hx:0<x.size) (As:x.size≤1000):cb X (n+3) 406 [.ext 0,.int 1,.int at_,.bytes x] b (.ok .none (tO (fi b at_ x))):=by
 obtain ⟨fd,hF⟩:=L.fn 27 _ rfl
 have e0:decide (at_<0)=false:=by simpa using h0
 have e1:decide ((x.size:Int) > 0)=true:=by simp;exact (dW (ag (aD (ae 0) aa) (ag (aq aa (ae 1000)) (aD (ae 0) aa)))) hx As
 have hh:(iw b at_).size≤200000:=by
  unfold iw
  rw [Tb,SA]
  split<;>(first|exact (Lq 1 1 [gk (fy bc (aL aa))] (ag (bM (aJ 0) bc) (ag (bM bc (aJ 100000)) (ag (cU (aJ 0) (fy bc (aL aa))) (aq (ak aa aj) (ae 200000)))))) h0 h1 (by assumption)|exact (Lq 1 0 [gk (aJ 0)] (ag (aq aa (ae 100000)) (aq (ak aa aj) (ae 200000)))) hb)
 have p1:(KBy.picked (iw b at_) none (some at_)).size≤200000:=Qx (KBc.size_picked_le _ _ _) hh
 have p2:(KBy.picked (iw b at_) (some (at_+x.size)) none).size≤200000:=Qx (KBc.size_picked_le _ _ _) hh
 have p3:(fi b at_ x).size≤500000:=by
  unfold fi
  rw [Tb,Tb];exact (dC (ag (aD (ae 0) aj) (ag (aq aj (ae 1000)) (ag (aq aa (ae 200000)) (ag (aq az (ae 200000)) (aq (ak (ak aa aj) az) (ae 500000))))))) hx As p1 p2
 exact cb.Kg hF rfl av (aG (dI (SE.fU L.V L.Y (ai rfl) (au (ai rfl) aF) (.head _) (nh L)))
  (aG (S1.kI (cg (ai rfl) aC (e0▸aQ.ltI)) bX)
  (aG (S1.qK (cg (SE.pd (ai rfl) (CN hx As)) aC (e1▸aQ.Iv))
   (aG (cj (SE.Af (SE.ud L.V (SE.qg L.V L.Y (ai rfl) (.inr ⟨rfl,rfl⟩)) (ai rfl)) (SE.uI (SE.max2 aC (SE.sub (ai rfl) (SE.pd (SE.ud L.V (SE.qg L.V L.Y (ai rfl) (.inr ⟨rfl,rfl⟩)) (ai rfl)) (Qx hb av)))) (by split<;>(first|exact (xC (ag (cU (aJ 0) (fy bc (aL aa))) (bM (aJ 0) (fy bc (aL aa))))) (by assumption)|exact @G7)) (by split<;>(first|exact (xC (ag (aq aa (ae 100000)) (ag (bM (aJ 0) bc) (ag (bM bc (aJ 100000)) (bM (fy bc (aL aa)) (aJ 1000000)))))) hb h0 h1|exact @G6))) (by rw [SA];split<;>(first|exact (Lq 1 1 [gk (fy bc (aL aa))] (ag (bM (aJ 0) bc) (ag (bM bc (aJ 100000)) (ag (cU (aJ 0) (fy bc (aL aa))) (aq (ak aa aj) (ae 1000000)))))) h0 h1 (by assumption)|exact (Lq 1 0 [gk (aJ 0)] (ag (aq aa (ae 100000)) (aq (ak aa aj) (ae 1000000)))) hb))))
   (aG (dI (SE.fU L.V L.Y (ai rfl) (au (ai rfl) (au (SE.Af (SE.Af (SE.o7 (ai rfl) .none (.some (ai rfl)) (by show (iw b at_).size≤1000000;exact Qx hh av)) (SE.rd (ai rfl)) (by show (KBy.picked (iw b at_) none (some at_)).size+x.size≤1000000;exact (cS (ag (aD (ae 0) aj) (ag (aq aj (ae 1000)) (ag (aq aa (ae 200000)) (aq (ak aa aj) (ae 1000000)))))) hx As p1)) (SE.o7 (ai rfl) (.some (cZ (ai rfl) (SE.pd (ai rfl) (CN hx As)))) .none (by show (iw b at_).size≤1000000;exact Qx hh av)) (by show (KBy.picked (iw b at_) none (some at_)++x).size+(KBy.picked (iw b at_) (some (at_+x.size)) none).size≤1000000;rw [Tb];exact (dC (ag (aD (ae 0) aj) (ag (aq aj (ae 1000)) (ag (aq aa (ae 200000)) (ag (aq az (ae 200000)) (aq (ak (ak aa aj) az) (ae 1000000))))))) hx As p1 p2)) aF)) (.tail _ (.tail _ (.head _))) (F6 L p3 qo.1 qo.2)))
   bX))) bX)))
end
theorem sQ {prog:Rn}{w:RE}{A:QE}{s:Qs}{R:Result→Qs→Prop}{a:Qt}{o:R3}{fd:RD}{body:List Rr}{vals:List Qr}{binds:List (Qy×Qr)}
  (zv:A.depth<recursionLimit) (ho:s.heap.get? a=some o) (H7:o.data=.func fd) (KZ:s.heap.NoLimit) (Na:s.heap.CodeRec fd.code fd.qualname)
  (Ib:fd.body=.stmts body) (Ic:BindsTo s fd ⟨vals,[]⟩ binds) (Lk:fd.closure=[])
  (HR:∀ x∈binds,fd.scope.names.lookup x.1=some .local∨(fd.scope.names.lookup x.1=some .cell∧((cellsFrom (s.heap.objs.size+1) fd.scope.names []).lookup x.1).isSome=true))
  (h:∀ ah,InCallC s (callEnvC fd s.heap.objs.size a).locals (bindL (callEnvC fd s.heap.objs.size a).kindOf binds fun _=>none) (callEnvC fd s.heap.objs.size a).cells
    (bindC (callEnvC fd s.heap.objs.size a).kindOf binds fun _=>none) ah →
   QF (QJ prog w) (A.deeper (callEnvC fd s.heap.objs.size a)) (Vl body (callEnvC fd s.heap.objs.size a)) (fun f s'=>R (.ok (.ret (match f with|.ret v=>v|_=>.none))) s')
    (fun e s'=>QF (QJ prog w) (A.deeper (callEnvC fd s.heap.objs.size a)) (leaving (callEnvC fd s.heap.objs.size a) e) (fun _ dG=>R (.error e) dG) (fun e' dG=>R (.error e') dG) s') ah)
  (Fz:fd.scope.isCoroutine=false) (Ld:fd.scope.isGenerator=false) (hk:fd.scope.kind=.function) :
  RS (QJ prog w) A (.call (.ref a) ⟨vals,[]⟩) R s:=by
 refine codeAny_call_function zv ho H7 Fz Ld Ib Na ?_
 refine Ic _ _ _ _ ?_
 rw [Lk]
 refine wpAny_newFunctionEnv_cells hk HR fun env he s' x=>?_
 subst he
 exact ⟨KZ.keeps x.toInCall.keep,codeAny_func (h s' x)⟩
noncomputable def iC (X:Cx) (n:Nat) (a:Qt) (e:En) (args:List D) (b:Array UInt8) (d:D) (e':En) (b':Array UInt8):Prop :=
 ∀ (A:QE) (f:FD) (g:GM) (o:Qy→List Qt) (ρ:Rw) (s:Qs) (x:Qt) (os:List Qt) (vs:List Qr) (R:Result→Qs→Prop),cG A n→FR X.B X.V A f g o ρ b s→uR X A g s os→lz g X.V.obj s.heap os (.ref x) e→aB g X.V.obj vs args →
  (∀ v g' os' s',ef X.V A (·∈os) g s g' b' s'→Rep g' X.V.obj v d→lz g' X.V.obj s'.heap os' (.ref x) e'→uR X A g' s' os'→(∀ a∈os',a∈os∨s.heap.get? a=none)→R (.ok (.ret v)) s') →
   RS (QJ X.prog X.w) A (.call (.ref a) ⟨.ref x::vs,[]⟩) R s
inductive Aj:Fl→D→En→Array UInt8→Prop
 | next {ρ:Rw}{b:Array UInt8}{e:En}:lk ρ a9=some e→Aj (.next ρ b) .none e b
 | ret {ρ:Rw}{b:Array UInt8}{e:En}{d:D}:lk ρ a9=some e→Aj (.ret d ρ b) d e b
theorem iC.intro {X:Cx}{n:Nat}{a:Qt}{fd:RD}{sc:QM}{names:List Qy}{body:List Rr}{en q0:En}{args dd:List D}{dv:List Qr}{b b':Array UInt8}{d:D}{r:Fl}(hF:i6 X a fd sc (a9::names) body (args.length+1) dv) (OR:∀ g vw,aB g vw dv dd) (hl:(args++dd).length=names.length) (hN:o8 sc names=true)
  (hS:(sc.names.lookup a9=some .local∧a9∉names)) (h:SS X n sc body ((a9,en)::names.zip ((args++dd).map En.val)) b r) (hE:Aj r d q0 b'):iC X (n+1) a en args b d q0 b':=fun A f g o ρ s x os xU RR R F zx vE De k=>by
 have hr:=De.append (OR g X.V.obj)
 have hb:=hF.bind (.ref x::xU) (by rw [QC,De.length]) s (X.hK.keeps F.bC)
 rw [List.cons_append,Si] at hb
 generalize Qa:xU++dv=vs at hr hb
 generalize args++dd=args at *
 obtain ⟨ob,ho,hd⟩:=hF.obj
 have aY:=hF.Fg
 obtain ⟨Nj,vO⟩:=hS
 have td:vs.length=names.length:=hr.length.trans hl
 have Nm:=hN
 simp only [o8,R5,R4,decide_eq_true_eq,Uc,beq_iff_eq,bne_iff_ne] at hN
 obtain ⟨xj,EB⟩:=hN
 have jc:∀ p∈names.zip vs,p.1∈names:=fun p hp=>(Ue (a:=p.1) (b:=p.2) hp).1
 refine sQ (fd:=fd) (vals:=.ref x::xU) (binds:=(a9,.ref x)::names.zip vs) R.d (F.bC _ _ ho) hd (X.lim.keeps F.bC) (hF.code.keeps F.bC) hF.body hb hF.FJ (fun p hp=>?_) (fun ah y=>?_) (aY▸hF.co) (aY▸hF.gen) (aY▸hF.kind)
 ·rw [aY]
  rcases bS hp with rfl|hp
  ·exact .inl Nj
  ·rcases (xj p.1 (jc p hp)).1 with q|q
   ·exact .inl q
   ·exact .inr ⟨q,cellsFrom_some _ _ _ q⟩
 ·generalize gD:callEnvC fd s.heap.objs.size a=env at y ⊢
  have e1:env.scope=sc:=by rw [← gD];exact aY
  have e2:env.frame=some env.locals:=by rw [← gD];rfl
  have e3:env.globals=QY:=by rw [← gD];exact hF.glob
  have e4:env.builtins=Ra:=by rw [← gD];exact hF.blt
  have e5:env.cells=cellsFrom (s.heap.objs.size+1) sc.names []:=by rw [← gD,← aY];rfl
  have vM:∀ z,env.kindOf z=some .cell→(env.cells.lookup z).isSome=true:=fun z q=>by
   rw [e5]
   refine cellsFrom_some _ _ _ ?_
   rw [← e1];exact q
  have hz:((a9,Qr.ref x)::names.zip vs).map (·.1)=a9::names:=by rw [QT,fC _ _ td.symm]
  have jb:(a9::names).Nodup:=RH.mpr ⟨vO,EB⟩
  have r7:env.kindOf a9=some .local:=by show env.scope.names.lookup a9=_;rw [e1];exact Nj
  have uW:cI ah.heap env a9 (.ref x):=.inl ⟨r7,_,y.toInCall.ns,iA r7 _ _ (by rw [hz];exact jb) (by simp)⟩
  let o0:Qy→List Qt:=fun z=>if z=a9 then os else []
  have Aq:∀ z a,a∈o0 z→z=a9∧a∈os:=fun z a h=>by
   show z=a9∧a∈os
   by_cases q:z=a9
   ·rw [show o0 z=os from if_pos q] at h;exact ⟨q,h⟩
   ·rw [show o0 z=[] from if_neg q] at h;cases h
  have aA:FR X.B X.V (A.deeper env) (bB env [(a9,.ref x)]) g o0 ((a9,en)::names.zip (args.map En.val)) b ah:=by
   refine F.enter y e2 (by rw [e1];exact hF.kind) ⟨e3,e4⟩ vM (fun z e hy=>?_) (fun z a h=>zx a (Aq z a h).2) (fun z z' Kt a h h'=>Kt ((Aq z a h).1.trans (Aq z' a h').1.symm)) ?_ (fun p h=>by cases bq h;exact uW)
   ·change ite _ _ _=_ at hy
    split at hy
    ·rename_i q
     cases hy
     subst q
     exact ⟨.ref x,uW,by rw [show o0 a9=os from if_pos rfl];exact vE⟩
    ·rename_i q
     obtain ⟨v,d,rfl,h2,h3⟩:=tY hr hy
     refine ⟨v,?_,by rw [show o0 z=[] from if_neg q];exact h3⟩
     have Hy:z∈names:=by
      have:=lU hy
      rwa [fC _ _ (by rw [Qu];exact hl.symm)] at this
     have Ir:((a9,Qr.ref x)::names.zip vs).lookup z=some v:=by
      rw [Ro,show (z==a9)=false by simpa using q];exact h2
     rcases (xj z Hy).1 with w|w
     ·have w':env.kindOf z=some .local:=by show env.scope.names.lookup z=_;rw [e1];exact w
      exact .inl ⟨w',_,y.toInCall.ns,iA w' _ _ (by rw [hz];exact jb) Ir⟩
     ·have w':env.kindOf z=some .cell:=by show env.scope.names.lookup z=_;rw [e1];exact w
      obtain ⟨cc,hc⟩:=RU.mp (vM z w')
      refine .inr ⟨.inl w',cc,hc,?_⟩
      have:=y.cell z cc hc
      rwa [oG (by rw [w'];exact fun z=>nomatch z) _ _ (by rw [hz];exact jb) Ir] at this
   ·show ite _ _ _=_
    rw [if_neg (show ¬ bh=a9 by decide)]
    cases q:lk (names.zip (args.map En.val)) bh with
    | none=>rfl
    | some e =>
     have:=lU q
     rw [fC _ _ (by rw [Qu];exact hl.symm)] at this
     exact absurd rfl (xj _ this).2
  obtain ⟨outer,hA,_⟩:=F.da
  obtain ⟨d1,d2⟩:=dZ hA e2
  have I:mX (A.deeper env) (bB env [(a9,.ref x)]):=⟨⟨outer,d1⟩,e2,rfl,fun p h=>by cases bq h;rfl⟩
  have fin:∀ {v g' o' ρ' s'},FR X.B X.V (A.deeper env) (bB env [(a9,.ref x)]) g' o' ρ' b' s'→Step X.V (A.deeper env) (bB env [(a9,.ref x)]) g o0 ah g' o' s'→Rep g' X.V.obj v d→lk ρ' a9=some q0→RR (.ok (.ret v)) s':=fun {v g' o' ρ' s'} F' S' rv mC=>by
   have C:=ef.qz F y e2 F' S'
   have hw:∀ a,(∃ z,a∈o0 z)→a∈os:=fun a ⟨z,h⟩=>(Aq z a h).2
   obtain ⟨u,h1,h2⟩:=F'.vars a9 _ mC
   have h3:=F'.pin (a9,.ref x) (QO.mpr rfl)
   have h4:=h1.unique h3
   subst h4
   refine k v g' (o' a9) s' ⟨C.kept.weaken (fun a _ _ h=>h.imp id (hw a)) (fun a _ _ h=>.inl h),C.iW,C.gens,C.os,C.gm,fun a q q'=>(C.gn a q q').imp (hw a) id,C.bf,C.view⟩ rv h2 (fun a ha=>⟨F'.live a (.inr (.inr ⟨_,ha⟩)),F'.f9 a (.inr (.inr ⟨_,ha⟩)),F'.mB a (.inr (.inr ⟨_,ha⟩)),fun h=>F'.ic _ a ha (by rw [d2];exact QD _ h),(F'.dY _ a ha).2⟩) fun a ha=>?_
   rcases S'.on a9 a ha with ⟨z,h⟩|h
   ·exact .inl (Aq z a h).2
   ·refine .inr ?_
    cases e:s.heap.get? a with
    | none=>rfl
    | some ob=>rw [y.toInCall.keep a ob e] at h;cases h
  refine h (A.deeper env) (bB env [(a9,.ref x)]) g o0 ah _ _ R.deeper e1 I aA ?_
  cases hE with
  | next mC=>exact fun g' o' s' F' S'=>fin F' S' .none mC
  | ret mC=>exact fun v g' o' s' F' S' rv=>fin F' S' rv mC
theorem i6.ofFn {X:Cx}{a:Qt}{fd:RD}{sc:QM}{names:List Qy}{body:List Rr}{k:Nat}(hF:l8 X a fd sc names body) (hk:names.length=k):i6 X a fd sc names body k [] :=
 ⟨hF.obj,hF.code,hF.Fg,hF.body,fun vs hl s _=>.of_eq (by rw [Sj];exact hF.bind vs (hl.trans hk.symm)),hF.FJ,hF.co,hF.gen,hF.kind,hF.glob,hF.blt⟩
theorem gJ.Mm {X:Cx}{n:Nat}{a:Qt}{c:Nat}{ds ds' args:List D}{b b':Array UInt8}{d:D}(h:iC X n a (.obj c ds) args b d (.obj c ds') b'):gJ X n a c ds args b d ds' b':=fun A f g o ρ s x dx vs R' R F hl he hr k=>h A f g o ρ s x [x,dx] vs R' R F hl he hr k
theorem iC.Ja {X:Cx}{n:Nat}{a:Qt}{c:Nat}{ds ds' args:List D}{b b':Array UInt8}{d:D}(h:gJ X n a c ds args b d ds' b'):iC X n a (.obj c ds) args b d (.obj c ds') b':=fun A f g o ρ s x os vs R' R F hl he hr k=>by
 obtain ⟨a',dx,es,m,us,sl,e,rfl,_⟩:=id he
 cases e
 exact h A f g o ρ s x dx vs R' R F hl he hr k
theorem gJ.intro {X:Cx}{n:Nat}{a:Qt}{fd:RD}{sc:QM}{names:List Qy}{body:List Rr}{c:Nat}{ds ds' args:List D}{b b':Array UInt8}{d:D}{r:Fl}(hF:l8 X a fd sc (a9::names) body) (hl:args.length=names.length) (hN:o8 sc names=true)
  (hS:(sc.names.lookup a9=some .local∧a9∉names)) (h:SS X n sc body ((a9,.obj c ds)::names.zip (args.map En.val)) b r) (hE:E6 c r d ds' b'):gJ X (n+1) a c ds args b d ds' b' :=
 .Mm (iC.intro (dd:=[]) (i6.ofFn hF (by rw [QC,hl])) (fun _ _=>.nil) (by rw [Sj];exact hl) hN hS (by rw [Sj];exact h) (by
  cases hE with
  | next h'=>exact .next h'
  | ret h'=>exact .ret h'))
section
variable {X:Cx}{n:Nat}{sc:QM}{ρ af ay cN:Rw}{b ao b₂ eb:Array UInt8}
theorem nv {C mA:Qt}{en q0:En}{args:List D}{A:QE}{f:FD}{aE:GM}{aN:Qy→List Qt}{ah:Qs}{vs:List Qr}{Q:Qr→Qs→Prop}{E:Qr→Qs→Prop}(Ak:makesIn X.K C=true) (Al:findIn X.K (.ref C) "__init__"=some (some (.ref mA))) (IW:typeIn X.K (.ref mA)=some (.type "function"))
  (H5:∀ (h:QL) (x dx:Qt),x≠dx→h.get? x=some (RT C dx)→h.get? dx=some emptyDict→lz aE X.V.obj h [x,dx] (.ref x) en) (hM:iC X n mA en args ao .none q0 b₂) (R:cG A (n+1)) (aA:FR X.B X.V A f aE aN af ao ah) (aW:aB aE X.V.obj vs args)
  (q:∀ v g' o' s' os,FR X.B X.V A f g' o' af b₂ s'→bK X.V A f aE aN ah g' o' s'→(∀ a∈os,a∈o' bh∧ah.heap.get? a=none)→lz g' X.V.obj s'.heap os v q0→Q v s'):QF (QJ X.prog X.w) A (PySem.call (.ref C) vs) Q E ah:=by
 refine Sy ?_
 obtain ⟨hh,gg,dr,tk,os⟩:=ah
 have Ls:X.K.In hh:=X.hK.keeps aA.bC
 refine make_core (makes_of Ls Ak) (Ut Ls Al) (fun self=>bind_fn Ls self IW) (.inl rfl) ?_
 generalize Bj:A.under (.builtin "type.__call__" ⟨.ref (C)::vs,[]⟩)=A'
 obtain ⟨u1,u2,u3,u4⟩:=kj A ⟨.ref (C)::vs,[]⟩
 have R':cG A' n:=Bj▸R.make
 have n8:A'.frames=A.frames:=Bj▸u1
 have kk:∀ a ob,hh.get? a=some ob→((hh.push emptyDict).push (RT (C) hh.objs.size)).get? a=some ob:=fun a ob e=>Qz _ (Qz _ e)
 obtain ⟨aM,aO⟩:=aA.keeps (tk:=tk) (dr:=dr) kk
 have z1:(hh.push emptyDict).objs.size=hh.objs.size+1:=Su ..
 have Eo:hh.get? (hh.objs.size+1)=none:=get_none (Tv _)
 have jb:hh.get? hh.objs.size=none:=get_none (QV _)
 have MZ:((hh.push emptyDict).push (RT (C) hh.objs.size)).get? (hh.objs.size+1)=some (RT (C) hh.objs.size):=by rw [← z1];exact QN _ rfl
 have Fv:((hh.push emptyDict).push (RT (C) hh.objs.size)).get? hh.objs.size=some emptyDict:=Qz _ (QN _ rfl)
 have cy:hh.objs.size+1≠hh.objs.size:=Nat.succ_ne_self _
 have Ux:=dh.fresh aA Eo
 have Ud:=dh.fresh aA jb
 have IF:fL A'=fL A:=by unfold fL;rw [n8]
 have zx:uR X A' aE ⟨(hh.push emptyDict).push (RT (C) hh.objs.size),gg,dr,tk,os⟩ [hh.objs.size+1,hh.objs.size]:=fun a ha=>by
  rw [IF]
  rcases bS ha with rfl|ha
  ·exact ⟨⟨_,MZ⟩,Ux.g,Ux.b,Ux.fr,Ux.fp⟩
  ·cases bq ha
   exact ⟨⟨_,Fv⟩,Ud.g,Ud.b,Ud.fr,Ud.fp⟩
 refine hM A' f aE aN af _ (hh.objs.size+1) [hh.objs.size+1,hh.objs.size] vs _ R' (aM.around n8) zx (H5 _ _ _ cy MZ Fv) aW fun v g' os' s' C rv qO hl ja=>?_
 cases rv
 refine ⟨rfl,?_⟩
 have fresh:∀ a∈os',hh.get? a=none:=fun a ha=>by
  rcases ja a ha with h|h
  ·rcases bS h with rfl|h
   ·exact Eo
   ·cases bq h;exact jb
  ·cases e:hh.get? a with
   | none=>rfl
   | some ob=>rw [kk a ob e] at h;cases h
 have P:eW X.V A aE ⟨hh,gg,dr,tk,os⟩ g' b₂ s':=by
  have hw:∀ a ob,hh.get? a=some ob→a∉[hh.objs.size+1,hh.objs.size]:=fun a ob e h=>by
   rcases bS h with rfl|h
   ·exact dP Eo e
   ·cases bq h;exact dP jb e
  refine ⟨⟨fun a ob e p r=>C.kept.keep a ob (kk a ob e) (fun h=>h.elim p (hw a ob e)) (by rw [IF];exact r),fun a ob e p=>C.kept.slot a ob (kk a ob e) fun h=>h.elim p (hw a ob e)⟩,fun a ob e=>C.iW a ob (kk a ob e),C.gens,C.os,C.gm,fun a e e'=>?_,C.bf,C.view⟩
  rcases C.gn a e e' with h|h
  ·rcases bS h with rfl|h
   ·exact Eo
   ·cases bq h;exact jb
  ·show hh.get? a=none
   cases e2:hh.get? a with
   | none=>rfl
   | some ob=>rw [kk a ob e2] at h;cases h
 have cA:=aA.after P
 have BH:=P.mq aA
 have hU:∀ a∈os',dh X.B X.V A f g' aN a∧∃ ob,s'.heap.get? a=some ob:=fun a ha=>⟨{ dh.fresh aA (fresh a ha) with g:=(hl a ha).2.1 },(hl a ha).1⟩
 have fz:=cA.adopt os' hU
 have L4:bK X.V A f aE aN ⟨hh,gg,dr,tk,os⟩ g' (ll aN os') s':={ BH with on:=fun y a h=>?_,tk:=fun a h=>⟨QZ _ h,(BH.tk a h).2⟩ }
 ·refine q (.ref (hh.objs.size+1)) g' _ s' os' fz L4 (fun a ha=>⟨Rf _ ha,?_⟩) qO
  exact fresh a ha
 ·unfold ll at h
  split at h
  ·rcases i9 h with h|h
   ·exact .inr (fresh a h)
   ·exact .inl ⟨_,h⟩
  ·exact .inl ⟨y,h⟩
theorem SF.zg {x:Qy}{np pos:Rd}{e:QR}{rest:List QR}{C mA:Qt}{en q0:En}{args:List D}(hx:X.mg x=some (.ref C)) (Kk:keepIn X.K (.ref C)=true) (Ak:makesIn X.K C=true) (Al:findIn X.K (.ref C) "__init__"=some (some (.ref mA))) (IW:typeIn X.K (.ref mA)=some (.type "function"))
  (H5:∀ (g:GM) (h:QL) (x dx:Qt),x≠dx→h.get? x=some (RT C dx)→h.get? dx=some emptyDict→lz g X.V.obj h [x,dx] (.ref x) en) (gE:rh X (n+1) sc (e::rest) ρ b args af ao) (hM:iC X n mA en args ao .none q0 b₂) (hk:autoParam (sc.names.lookup x=some .globalImplicit) bG) (hn:autoParam (okN x=true) bG)
  (he:autoParam (∀ env,QS (e::rest) env=(false,eval e env)::QS rest env) cw) (hp:autoParam (∀ env,(backTo pos (QS rest env)).any (·.1)=false) cw):SF X (n+1) sc (.Call (.Name x np) (e::rest) [] pos) ρ b q0 af b₂:=fun A f g o s Q E R aY F q=>by
 refine RG (Gl F (by rw [aY];exact hk) hx hn (callWith_K (K:=X.K) (h₀:=X.B) X.hK Kk ?_ (he _) (hp _)))
 refine gE pos A f g o s _ E R aY F fun vs aE aN ah aA aP aW=>⟨X.hK.keeps aA.bC,?_⟩
 rw [List.nil_append]
 refine nv Ak Al IW (H5 aE) hM R aA aW fun v g' o' s' os F' S' ho qO=>q v g' o' s' os F' (aP.trans S') (fun a ha=>⟨(ho a ha).1,?_⟩) qO
 cases e:s.heap.get? a with
 | none=>rfl
 | some ob =>
  obtain ⟨b0,e'⟩:=aP.iW a ob e
  exact dP ((ho a ha).2) e'
theorem SF.Hq {x:Qy}{np pos:Rd}{C mA:Qt}{en q0:En}(hx:X.mg x=some (.ref C)) (Kk:keepIn X.K (.ref C)=true) (Ak:makesIn X.K C=true) (Al:findIn X.K (.ref C) "__init__"=some (some (.ref mA))) (IW:typeIn X.K (.ref mA)=some (.type "function"))
  (H5:∀ (g:GM) (h:QL) (x dx:Qt),x≠dx→h.get? x=some (RT C dx)→h.get? dx=some emptyDict→lz g X.V.obj h [x,dx] (.ref x) en) (hM:iC X n mA en [] b .none q0 b₂) (hk:autoParam (sc.names.lookup x=some .globalImplicit) bG) (hn:autoParam (okN x=true) bG):SF X (n+1) sc (.Call (.Name x np) [] [] pos) ρ b q0 ρ b₂:=fun A f g o s Q E R aY F q=>by
 refine RG (Gl F (by rw [aY];exact hk) hx hn ?_)
 refine Tz (P:=X.K.In) rfl (UL Kk) (U5 ⟨X.hK.keeps F.bC,?_⟩)
 exact nv Ak Al IW (H5 g) hM R F .nil fun v g' o' s' os F' S' ho qO=>q v g' o' s' os F' S' ho qO
theorem SF.make {x:Qy}{np pos:Rd}{e:QR}{rest:List QR}{c:Nat}{args ds':List D}(hx:X.mg x=some (.ref (ra c))) (gE:rh X (n+1) sc (e::rest) ρ b args af ao) (hM:gJ X n (Ed c) c [] args ao .none ds' b₂) (hk:autoParam (sc.names.lookup x=some .globalImplicit) bG) (hn:autoParam (okN x=true) bG)
  (he:autoParam (∀ env,QS (e::rest) env=(false,eval e env)::QS rest env) cw) (hp:autoParam (∀ env,(backTo pos (QS rest env)).any (·.1)=false) cw):SF X (n+1) sc (.Call (.Name x np) (e::rest) [] pos) ρ b (.obj c ds') af b₂ :=
 have K:=X.cls c
 SF.zg (en:=.obj c []) hx K.keep K.Je K.mA K.fn (fun g h x dx cy h1 h2=>⟨x,dx,[],0,[],#[],rfl,rfl,cy,h1,h2,.nil _,.nil⟩) gE (iC.Ja hM) hk hn he hp
end
noncomputable def iy (o:Qy→List Qt) (x:Qy) (os':List Qt):Qy→List Qt:=fun y=>if y=x then os' else if y=bh then (o bh).filter (fun a=>!os'.contains a) else o y
section
variable {B:QL}{V:VI}{A:QE}{f:FD}{g:GM}{o:Qy→List Qt}{ρ:Rw}{b:Array UInt8}{s:Qs}
theorem FR.AY {x:Qy}{EL e':En}{v:Qr}{h':QL}{tk:Nat}{dr:S6}{os':List Qt}(F:FR B V A f g o ρ b s) (hx:lk ρ x=some EL) (hv:cI s.heap f.env x v) (k:∀ a ob,a∉o x→a≠f.env.locals→s.heap.get? a=some ob→h'.get? a=some ob) (hL:∀ m,s.heap.Ns f.env.locals m→h'.Ns f.env.locals m)
  (kx:∀ a∈o x,∃ ob,h'.get? a=some ob) (kl:∀ a∈os',∃ ob,h'.get? a=some ob) (ja:∀ a∈os',a∈o x∨a∈o bh∨s.heap.get? a=none) (he:lz g V.obj h' os' v e') :
  FR B V A f g (iy o x os') (aS ρ x e') b ⟨h',s.gens,dr,tk,s.os⟩∧Step V A f g o s g (iy o x os') ⟨h',s.gens,dr,tk,s.os⟩:=by
 have m9:x≠bh:=fQ F.eC hx
 have gL:g f.env.locals=none:=F.f9 _ (.inl F.ib)
 have lL:∃ ob,h'.get? f.env.locals=some ob∧∃ es n,ob.data=.dict es n:=by
  obtain ⟨m,hn⟩:=F.kE
  obtain ⟨ob,es,ep,e,d,_⟩:=hL m hn
  exact ⟨ob,e,es,ep,d⟩
 have cl:∀ y c,f.env.cells.lookup y=some c→∀ ov,s.heap.IsCell c ov→h'.IsCell c ov:=fun y c hc ov ⟨ob,e,hd⟩=>⟨ob,k c ob ((F.cells y c hc).c5 x) (F.cells y c hc).c1 e,hd⟩
 have kg:∀ a ob,g a=some ob→h'.get? a=some ob:=fun a ob q=>k a ob (fun h=>by exact dP (F.f9 a (.inr (.inr ⟨x,h⟩))) q) (fun z=>by rw [z,gL] at q;cases q) (F.bf a ob q)
 have alive:∀ a ob,s.heap.get? a=some ob→∃ b0,h'.get? a=some b0:=fun a ob q=>(Decidable.em (a∈o x)).elim (kx a) fun h=>(Decidable.em (a=f.env.locals)).elim (fun e=>by subst e;exact ⟨_,lL.choose_spec.1⟩) fun e=>⟨ob,k a ob h e q⟩
 have ox:iy o x os' x=os':=if_pos rfl
 have ot:iy o x os' bh=(o bh).filter (fun a=>!os'.contains a):=by unfold iy;rw [if_neg (Ne.symm m9),if_pos rfl]
 have oy:∀ y,y≠x→y≠bh→iy o x os' y=o y:=fun y h1 h2=>by unfold iy;rw [if_neg h1,if_neg h2]
 have mem:∀ y a,a∈iy o x os' y→(y=x∧a∈os')∨(y≠x∧a∈o y∧(y=bh→a∉os')):=fun y a h=>by
  by_cases q:y=x
  ·subst q;rw [ox] at h;exact .inl ⟨rfl,h⟩
  ·by_cases q2:y=bh
   ·subst q2
    rw [ot] at h
    obtain ⟨h1,h2⟩:=jz h
    exact .inr ⟨q,h1,fun _ z=>by simp [z] at h2⟩
   ·rw [oy y q q2] at h;exact .inr ⟨q,h,fun z=>absurd z q2⟩
 have wW:∀ a∈os',a∉f.fx∧a∉V.fp∧a∉fL A∧g a=none∧B.get? a=none∧(∀ y,y≠x→y≠bh→a∉o y)∧∀ y c,f.env.cells.lookup y=some c→a≠c:=fun a ha=>by
  rcases ja a ha with h|h|h
  ·exact ⟨(F.dY x a h).1,(F.dY x a h).2,F.ic x a h,F.f9 a (.inr (.inr ⟨x,h⟩)),F.mB a (.inr (.inr ⟨x,h⟩)),fun y h1 _ q=>F.cX y x h1 a q h,fun y c hc z=>(F.cells y c hc).c5 x (z▸h)⟩
  ·exact ⟨(F.dY _ a h).1,(F.dY _ a h).2,F.ic _ a h,F.f9 a (.inr (.inr ⟨_,h⟩)),F.mB a (.inr (.inr ⟨_,h⟩)),fun y _ h2 q=>F.cX y bh h2 a q h,fun y c hc z=>(F.cells y c hc).c5 bh (z▸h)⟩
  ·have U:=dh.fresh F h
   exact ⟨U.fx,U.fp,U.fr,U.g,U.b,fun y _ _=>U.o y,fun y c hc z=>U.c y c hc z.symm⟩
 have NW:∀ a∈os',a≠f.env.locals:=fun a ha z=>(wW a ha).1 (z▸F.ib)
 have md:∀ a,Mod V f (iy o x os') a→a∈os'∨Mod V f o a:=fun a h=>by
  rcases h with h|h|⟨z,h⟩
  ·exact .inr (.inl h)
  ·exact .inr (.inr (.inl h))
  ·rcases mem z a h with ⟨_,h⟩|⟨_,h,_⟩
   ·exact .inl h
   ·exact .inr (.inr (.inr ⟨z,h⟩))
 refine ⟨{ F with bC:=fun a ob q=>k a ob (fun h=>by have:=F.mB a (.inr (.inr ⟨x,h⟩));rw [q] at this;cases this) (fun z=>by have:=F.mB a (.inl (z▸F.ib));rw [q] at this;cases this) (F.bC a ob q),gens:=F.gens,bf:=kg,f9:=fun a h=>(md a h).elim (fun h=>(wW a h).2.2.2.1) (F.f9 a),mB:=fun a h=>(md a h).elim (fun h=>(wW a h).2.2.2.2.1) (F.mB a),live:=fun a h=>?_,dY:=fun y a h=>?_,cX:=fun y z q a h h'=>?_,ic:=fun y a h=>?_,view:=V.fj _ _ _ F.view fun a h ob q=>k a ob (fun z=>(F.dY x a z).2 h) (fun z=>F.uu a (z▸F.ib) h) q,vars:=fun y e h=>?_,kE:=?_,cells:=fun y c hc=>?_,da:=F.da.slot fun a h ob q=>?_,eC:=by rw [bx,if_neg (Ne.symm m9)];exact F.eC,pin:=fun p hp=>(F.pin p hp).move hL (cl p.1) },
  ⟨⟨fun a ob q p _=>k a ob (fun h=>p (.inr (.inr ⟨x,h⟩))) (fun z=>p (.inl (z▸F.ib))) q,fun a ob q p=>⟨ob.slots,k a ob (fun h=>p (.inr (.inr ⟨x,h⟩))) (fun z=>p (.inl (z▸F.ib))) q⟩⟩,alive,fun _ _ e=>e,fun a e e'=>absurd e e',fun y a h=>?_,rfl⟩⟩
 ·rcases md a h with h|h
  ·exact kl a h
  ·obtain ⟨ob,q⟩:=F.live a h
   exact alive a ob q
 ·rcases mem y a h with ⟨_,h⟩|⟨_,h,_⟩
  ·exact ⟨(wW a h).1,(wW a h).2.1⟩
  ·exact F.dY y a h
 ·rcases mem y a h with ⟨q1,h1⟩|⟨q1,h1,t1⟩<;>rcases mem z a h' with ⟨q2,h2⟩|⟨q2,h2,t2⟩
  ·exact q (q1.trans q2.symm)
  ·exact (Decidable.em (z=bh)).elim (fun e=>t2 e h1) fun e=>(wW a h1).2.2.2.2.2.1 z q2 e h2
  ·exact (Decidable.em (y=bh)).elim (fun e=>t1 e h2) fun e=>(wW a h2).2.2.2.2.2.1 y q1 e h1
  ·exact F.cX y z q a h1 h2
 ·rcases mem y a h with ⟨_,h⟩|⟨_,h,_⟩
  ·exact (wW a h).2.2.1
  ·exact F.ic y a h
 ·rw [bx] at h
  by_cases q:y=x
  ·subst q
   cases ig (if_pos rfl) h
   exact ⟨v,hv.move hL (cl y),by show lz g V.obj h' (iy o y os' y) v _;rw [ox];exact he⟩
  ·rw [if_neg q] at h
   have xd:y≠bh:=fQ F.eC h
   obtain ⟨u,h1,h2⟩:=F.vars y e h
   refine ⟨u,h1.move hL (cl y),?_⟩
   show lz g V.obj h' (iy o x os' y) u e
   rw [oy y q xd]
   exact h2.mono (fun _ _ z=>z) fun a ha ob z=>k a ob (F.cX y x q a ha) (fun w=>(F.dY y a ha).1 (w▸F.ib)) z
 ·obtain ⟨m,hn⟩:=F.kE
  exact ⟨m,hL m hn⟩
 ·obtain ⟨h1,⟨u,h2⟩,h3,h4,h5,h6⟩:=F.cells y c hc
  refine ⟨h1,⟨u,cl y c hc u h2⟩,h3,h4,fun z hz=>?_,h6⟩
  rcases mem z c hz with ⟨_,hz⟩|⟨_,hz,_⟩
  ·exact (wW c hz).2.2.2.2.2.2 y c hc rfl
  ·exact h5 z hz
 ·by_cases e:a=f.env.locals
  ·subst e
   obtain ⟨b0,e1,e2⟩:=lL
   exact ⟨b0,e1,fun _=>e2⟩
  ·exact ⟨ob,k a ob (fun z=>F.ic x a z h) e q,fun h=>h⟩
 ·rcases mem y a h with ⟨_,h⟩|⟨_,h,_⟩
  ·rcases ja a h with h|h|h
   ·exact .inl ⟨x,h⟩
   ·exact .inl ⟨_,h⟩
   ·exact .inr h
  ·exact .inl ⟨y,h⟩
theorem FR.patch {x:Qy}{FP Φ:List (Qt×R3)→Qr→Prop} {v:Qr}{h':QL}{tk:Nat}{dr:S6}{l r c:List (Qt×R3)} {dn:Qt}{ob b0:R3}(F:FR B V A f g o ρ b s) (hx:lk ρ x=some (.raw FP)) (hv:cI s.heap f.env x v) (e1:o x=(l++(dn,ob)::r).map (·.1)) (e2:∀ p∈l++(dn,ob)::r,s.heap.get? p.1=some p.2) (nd:((l++(dn,ob)::r).map (·.1)).Nodup)
  (c1:∀ p∈c,p.1∈o bh) (c2:∀ p∈c,s.heap.get? p.1=some p.2) (c3:(c.map (·.1)).Nodup) (k:∀ y ob,y≠dn→y≠f.env.locals→s.heap.get? y=some ob→h'.get? y=some ob) (ho:h'.get? dn=some b0) (hL:∀ m,s.heap.Ns f.env.locals m→h'.Ns f.env.locals m)
  (N7:((l++(dn,b0)::(r++c)).map (·.1)).Nodup→Φ (l++(dn,b0)::(r++c)) v) :
  FR B V A f g (iy o x ((l++(dn,b0)::(r++c)).map (·.1))) (aS ρ x (.raw Φ)) b ⟨h',s.gens,dr,tk,s.os⟩∧Step V A f g o s g (iy o x ((l++(dn,b0)::(r++c)).map (·.1))) ⟨h',s.gens,dr,tk,s.os⟩:=by
 have m9:x≠bh:=fQ F.eC hx
 have m1:dn∈o x:=by rw [e1,Rc];exact QZ _ QB
 have em:(l++(dn,b0)::(r++c)).map (·.1)=o x++c.map (·.1):=by rw [e1,Rc,Rc,Q9,QT,Rc];rfl
 have nL:∀ y∈o x,y≠f.env.locals:=fun y hy z=>(F.dY x y hy).1 (z▸F.ib)
 have D0:=nd
 rw [Rc,QT,Th,RH] at D0
 have mo:∀ p∈l++(dn,ob)::r,p.1∈o x:=fun p q=>by rw [e1];exact fV ⟨p,q,rfl⟩
 have fJ:∀ p∈l++(dn,b0)::(r++c),h'.get? p.1=some p.2:=fun p hp=>by
  rcases i9 hp with q|q
  ·have q':=Rf ((dn,ob)::r) q
   exact k _ _ (fun z=>D0.2.2 p.1 (fV ⟨p,q,rfl⟩) dn QB z) (nL _ (mo p q')) (e2 p q')
  ·rcases bS q with q|q
   ·rw [q];exact ho
   ·rcases i9 q with q|q
    ·have q':=QZ l (QD (dn,ob) q)
     exact k _ _ (fun z=>D0.2.1.1 (z▸fV ⟨p,q,rfl⟩)) (nL _ (mo p q')) (e2 p q')
    ·exact k _ _ (fun z=>F.cX bh x (Ne.symm m9) p.1 (c1 p q) (z▸m1)) (fun z=>(F.dY _ _ (c1 p q)).1 (z▸F.ib)) (c2 p q)
 refine F.AY hx hv (fun y ob hy=>k y ob fun z=>hy (z▸m1)) hL (fun y hy=>?_) (fun y hy=>?_) (fun y hy=>?_) ⟨_,rfl,fJ,N7 ?_⟩
 ·by_cases e:y=dn
  ·rw [e];exact ⟨_,ho⟩
  ·exact (F.live y (.inr (.inr ⟨x,hy⟩))).imp fun ob q=>k y ob e (nL y hy) q
 ·obtain ⟨p,hp,rfl⟩:=dj hy
  exact ⟨_,fJ p hp⟩
 ·rw [em] at hy
  refine (i9 hy).imp id fun hy=>?_
  obtain ⟨p,hp,rfl⟩:=dj hy
  exact .inl (c1 p hp)
 ·rw [em,Th]
  refine ⟨e1▸nd,c3,fun y hy z hz e=>?_⟩
  obtain ⟨p,hp,rfl⟩:=dj hz
  exact F.cX bh x (Ne.symm m9) p.1 (c1 p hp) (e▸hy)
end
inductive JK (C:Qt) (fl:List Qy) (K:List Qr→List (Qt×R3)→Prop) (c:List (Qt×R3)) (v:Qr):Prop
 | mk (a dx:Qt) (es:List RK) (m:Nat) (vals:List Qr) (rest:List (Qt×R3)) (h1:v=.ref a) (h2:c=(a,RT C dx)::(dx,Sv es m)::rest) (h3:(c.map (·.1)).Nodup) (h4:FieldsAt fl es vals) (h5:K vals rest)
abbrev kK (C:Qt) (fl:List Qy) (K:List Qr→List (Qt×R3)→Prop):En:=.raw (JK C fl K)
theorem kK.start {C:Qt}{fl:List Qy}{g:GM}{vw:Nat→Option Qt}{h:QL}{x dx:Qt}(cy:x≠dx) (h1:h.get? x=some (RT C dx)) (h2:h.get? dx=some emptyDict):lz g vw h [x,dx] (.ref x) (kK C fl fun vals rest=>vals=[]∧rest=[]):=by
 refine ⟨[(x,RT C dx),(dx,Sv [] 0)],rfl,fun p hp=>?_,x,dx,[],0,[],[],rfl,rfl,?_,.nil _,rfl,rfl⟩
 ·rcases bS hp with rfl|hp
  ·exact h1
  ·cases bq hp;exact h2
 ·simp only [QT,T6,RH,QO,RB,not_false_eq_true,U8,and_true]
  exact cy
section
variable {X:Cx}{n:Nat}{sc:QM}{ρ af ay cN:Rw}{b ao b₂ eb:Array UInt8}
noncomputable def b8 (X:Cx) (en:En) (W:List (Qt×R3)→Qr→Prop):Prop:=∀ g h os v,lz g X.V.obj h os v en→∃ c:List (Qt×R3),(∀ p∈c,p.1∈os)∧(∀ p∈c,h.get? p.1=some p.2)∧(c.map (·.1)).Nodup∧W c v
theorem b8.val {d:D}{W:List (Qt×R3)→Qr→Prop} (h:∀ g v,Rep g X.V.obj v d→W [] v):b8 X (.val d) W:=fun g hh os v r=>⟨[],(fun _ h=>nomatch h),(fun _ h=>nomatch h),.nil,h g v r⟩
theorem b8.raw {Φ:List (Qt×R3)→Qr→Prop} (hn:∀ c v,Φ c v→(c.map (·.1)).Nodup):b8 X (.raw Φ) Φ:=fun g hh os v r=>by
 obtain ⟨c,h1,h2,h3⟩:=r
 exact ⟨c,fun p hp=>by rw [h1];exact fV ⟨p,hp,rfl⟩,h2,hn c v h3,h3⟩
theorem S1.iG {C mA:Qt}{fl:List Qy}{x:Qy}{np tp pos:Rd}{k:Nat}{nm:Qy}{value:QR}{en:En}{K K':List Qr→List (Qt×R3)→Prop} {W:List (Qt×R3)→Qr→Prop} (Y:kG X.K C fl mA) (lB:fl.Nodup) (ON:fl.length≤11) (hv:SF X n sc value ρ b en af ao) (hx:lk af x=some (kK C fl K)) (hk:fl[k]?=some nm) (hl:∀ vals rest,K vals rest→k≤vals.length)
  (hB:b8 X en W) (hK:∀ vals rest c v,K vals rest→W c v→K' (if k<vals.length then vals.set k v else vals++[v]) (rest++c)) (hn:autoParam (okN x=true) bG)
  (hs:autoParam (∀ env,swapsWith value (some (.Attribute (.Name x np) nm tp)) pos.line env=pure false) cw):S1 X n sc (.Assign [.Attribute (.Name x np) nm tp] value pos) ρ b (.next (aS af x (kK C fl K')) ao):=fun A f g o s Q E R aY I F q=>by
 refine RN (hv A f g o s _ E R aY F fun v aE aN ah os aA aP ja aW=>?_) (hs _)
 obtain ⟨c,c1,c2,c3,hW⟩:=hB _ _ _ _ aW
 obtain ⟨w',h1,ct,e1,e2,a,dx,es,m,vals,rest,rfl,rfl,nd,hf,EC⟩:=aA.vars x _ hx
 refine Rb (aV aA.kind h1 (okN.d hn).2 ?_) (okN.d hn).1
 obtain ⟨mm,te⟩:=aA.fr
 obtain ⟨news,N,gN,jb⟩:=nk X.B ah.heap f.env.locals
 have h4:ah.heap.get? a=some (RT C dx):=e2 _ QB
 have h5:ah.heap.get? dx=some (Sv es m):=e2 _ in1
 have md:dx∈aN x:=by rw [e1];exact in1
 have nL:∀ y∈aN x,y≠f.env.locals:=fun y hy z=>(aA.dY x y hy).1 (z▸aA.ib)
 have Po:∀ y,y∈aN x→X.B.get? y=none:=fun y hy=>aA.mB y (.inr (.inr ⟨x,hy⟩))
 have HZ:=kv hf
 have hle:=hl _ _ EC
 obtain ⟨pQ,U,HT,vH⟩:=uY (od':=Sv (putL nm (QG.keyHash X.w.params nm) (.str nm (ah.toks+1)) v es) (putN nm es m)) (gN dx _ h5 (Po dx md) (nL dx md)) jb
 refine Vn (K:=X.K) (C:=C) (dx:=dx) (es:=es) (n:=m) (es':=putL nm (QG.keyHash X.w.params nm) (.str nm (ah.toks+1)) v es) (n':=putN nm es m) te X.hK N ⟨h4,rfl,rfl,h5⟩ rfl Y.sa Y.over (Y.tk nm (Q1 hk)) Y.dict ?_ rfl U ?_ fun h' sr N'=>?_
 ·exact jE hf nm
 ·have:=nJ nm (QG.keyHash X.w.params nm) (.str nm (ah.toks+1)) v es
  exact (ji (ag (aq aj (ae 11)) (ag (dB (aH az a7) (aq a7 aj)) (ag (aq aa (ak az (ae 1))) (aq aa (ae 1000)))))) ON HZ this
 ·have kk:∀ y ob,y≠dx→y≠f.env.locals→ah.heap.get? y=some ob→h'.get? y=some ob:=fun y ob hy hL e=>by
   cases eB:X.B.get? y with
   | some b0 =>
    have:=aA.bC y b0 eB
    cases ig e this
    exact sr.keep y _ eB
   | none=>exact (N' _ (HT _ (gN y ob e eB hL) hy)).1
  have oV:=(N' _ vH).1
  obtain ⟨aM,aO⟩:=aA.patch (l:=[(a,RT C dx)]) (tk:=ah.toks+2) (dr:=ah.drawn) (Φ:=JK C fl K') hx h1 e1 e2 nd (fun p hp=>(ja p.1 (c1 p hp)).1) c2 c3 kk oV (fun m' si=>by rw [Ns.uniq si te.ns];exact sr.ns) fun D0=>⟨a,dx,_,_,if k<vals.length then vals.set k v else vals++[v],rest++c,rfl,rfl,D0,ku hf _ _ v hk lB hle,hK _ _ _ _ EC hW⟩
  exact q aE _ _ aM (aP.toStep.trans aO)
theorem iD {C mA:Qt}{fl:List Qy}{A:QE}{f:FD}{g:GM}{o:Qy→List Qt}{s:Qs}{Q:Qr→Qs→Prop}{E:Qr→Qs→Prop}{k:Nat}{nm:Qy}{a dx:Qt}{es:List RK}{m:Nat}{vs:List Qr}{v:Qr}{expr:Bool}(C':kG X.K C fl mA) (lB:fl.Nodup)
  (F:FR X.B X.V A f g o ρ b s) (ha:s.heap.get? a=some (RT C dx)) (hd:s.heap.get? dx=some (Sv es m)) (hf:FieldsAt fl es vs) (hk:fl[k]?=some nm) (hv:vs[k]?=some v) (hh:handedIn v=true) (q:Q v { s with toks:=s.toks+1 }) :
  QF (QJ X.prog X.w) A (getAttr (.ref a) nm expr) Q E s:=by
 obtain ⟨h1,attr,h2,h3⟩:=C'.get nm (Q1 hk)
 obtain ⟨mm,Fr⟩:=F.fr
 exact Vd (K:=X.K) (C:=C) (es:=es) (n:=m) Fr X.hK ⟨ha,rfl,rfl,hd⟩ h1 C'.dict h2 h3 (iN hf hk lB hv) hh q
theorem SE.v8 {C mA:Qt}{fl:List Qy}{x:Qy}{np pos:Rd}{k:Nat}{nm:Qy}{i:Int}{K:List Qr→List (Qt×R3)→Prop} (Y:kG X.K C fl mA) (lB:fl.Nodup) (hx:lk ρ x=some (kK C fl K)) (hk:fl[k]?=some nm) (hi:∀ vals rest,K vals rest→∃ t,vals[k]?=some (.int i t)) (hn:autoParam (okN x=true) bG):SE X n sc (.Attribute (.Name x np) nm pos) ρ b (.int i) ρ b:=fun A f g o s Q E R aY F q=>by
 rw [RQ]
 obtain ⟨w',h1,ct,e1,e2,a,dx,es,m,vals,rest,rfl,rfl,nd,hf,EC⟩:=F.vars x _ hx
 obtain ⟨t,ht⟩:=hi _ _ EC
 refine Qq (Rb (aV F.kind h1 (okN.d hn).2 (Qq (Q2 (Qq (Q0 ?_))))) (okN.d hn).1)
 obtain ⟨aM,aO⟩:=F.tok (s.toks+1)
 exact iD Y lB F (e2 _ QB) (e2 _ in1) hf hk ht rfl (Qq (Rz (Qv (q _ g o _ aM aO (.int _ _)))))
noncomputable def IY (X:Cx):List (Qt×R3)→Qr→Prop:=fun c v=>∃ a ob,c=[(a,ob)]∧v=.ref a∧(a==sysModules)=false∧ob.IsDictOf (intKind X.prog X.w) []
theorem SF.Dr {pos:Rd}:SF X n sc (.Dict [] [] pos) ρ b (.raw (IY X)) ρ b:=fun A f g o s Q E R hs F q=>by
 refine wpAny_Dict_empty ?_
 have hk:=fun a ob (e:s.heap.get? a=some ob)=>Qz { cls:=.type "dict",data:=.dict #[] } e
 have cy:=QN (o:={ cls:=.type "dict",data:=.dict #[] }) s.heap rfl
 have KX:(s.heap.objs.size==sysModules)=false:=by
  obtain ⟨m,ob,_,_,e,_⟩:=F.kE
  have h1:=Rt e
  have h2:=F.LB
  obtain ⟨b0,_,_,e',_⟩:=X.hg
  have h3:=Rt e'
  have h4:3<s.heap.objs.size:=RF (show 3<X.B.objs.size from h3) (Qx (show X.B.objs.size≤f.env.locals from h2) (R9 h1))
  exact beq_eq_false_iff_ne.mpr (R0 (Q8 (show sysModules≤3 from (by decide:(1:Nat)≤3)) h4))
 obtain ⟨aM,aO⟩:=F.tD (tk:=s.toks) (dr:=s.drawn) hk [s.heap.objs.size] (fun a ha=>by cases bq ha;exact get_none (QV _)) (fun a ha=>by cases bq ha;exact ⟨_,cy⟩)
 obtain ⟨ob,ho,hd⟩:=SP.mp (QL.DictOf.new (knd:=intKind X.prog X.w) s.heap)
 refine q _ _ _ _ [s.heap.objs.size] aM aO (fun a ha=>⟨?_,?_⟩) ⟨[(s.heap.objs.size,ob)],rfl,fun p hp=>?_,_,ob,rfl,rfl,KX,hd⟩
 ·cases bq ha
  show _∈(if bh=bh then [s.heap.objs.size]++o bh else _)
  rw [if_pos rfl];exact QB
 ·cases bq ha;exact get_none (QV _)
 ·cases bq hp;exact ho
end
section
variable {X:Cx}{n:Nat}{sc:QM}{ρ af ay cN:Rw}{b ao b₂ eb:Array UInt8}
theorem S1.yq {C mA:Qt}{fl:List Qy}{x:Qy}{np ap DX FK tp pos:Rd}{j k:Nat}{nm Kh:Qy}{value:QR}{en:En}{K K':List Qr→List (Qt×R3)→Prop} {W:List (Qt×R3)→Qr→Prop} (Y:kG X.K C fl mA) (lB:fl.Nodup) (hv:SF X n sc value ρ b en af ao) (hx:lk af x=some (kK C fl K)) (hj:fl[j]?=some nm) (hk:fl[k]?=some Kh)
  (hB:b8 X en W) (hD:∀ vals rest,K vals rest→∃ pre dn ob post t,vals[j]?=some (.ref dn)∧vals[k]?=some (.int 1 t)∧rest=pre++(dn,ob)::post∧ob.IsDictOf (intKind X.prog X.w) []∧∀ b0 c v,b0.IsDictOf (intKind X.prog X.w) [(1,v)]→W c v→K' vals (pre++(dn,b0)::post++c)) (hn:autoParam (okN x=true) bG)
  (hs:autoParam (∀ env,swapsWith value (some (.Subscript (.Attribute (.Name x np) nm ap) (.Attribute (.Name x DX) Kh FK) tp)) pos.line env=pure false) cw):S1 X n sc (.Assign [.Subscript (.Attribute (.Name x np) nm ap) (.Attribute (.Name x DX) Kh FK) tp] value pos) ρ b (.next (aS af x (kK C fl K')) ao):=fun A f g o s Q E R aY I F q=>by
 refine S4 (hv A f g o s _ E R aY F fun v aE aN ah os aA aP ja aW=>?_) (hs _)
 obtain ⟨c,c1,c2,c3,hW⟩:=hB _ _ _ _ aW
 obtain ⟨w',h1,ct,e1,e2,a,dx,es,m,vals,rest,rfl,rfl,nd,hf,EC⟩:=aA.vars x _ hx
 obtain ⟨pre,dn,ob,post,t,v1,v2,rfl,hd,Pe⟩:=hD _ _ EC
 have h4:ah.heap.get? a=some (RT C dx):=e2 _ QB
 have h5:ah.heap.get? dx=some (Sv es m):=e2 _ in1
 have Mw:=QZ ((a,RT C dx)::(dx,Sv es m)::pre) (QB (a:=(dn,ob)) (l:=post))
 have h6:ah.heap.get? dn=some ob:=e2 _ Mw
 obtain ⟨aM,aO⟩:=aA.tok (ah.toks+1)
 obtain ⟨cA,cO⟩:=aA.tok (ah.toks+1+1)
 rw [RQ]
 refine Qq (Rb (aV aA.kind h1 (okN.d hn).2 (Qq (Q2 (Qq (Q0 ?_))))) (okN.d hn).1)
 refine iD Y lB aA h4 h5 hf hj v1 rfl (Qq (Rz (Qv ?_)))
 rw [RQ]
 refine Qq (Rb (aV aM.kind h1 (okN.d hn).2 (Qq (Q2 (Qq (Q0 ?_))))) (okN.d hn).1)
 refine iD Y lB aM h4 h5 hf hk v2 rfl (Qq (Rz (Qv ?_)))
 refine T8 (r9 t) (SP.mpr ⟨ob,h6,hd⟩) (fun h' oV mC=>?_) (by show 0≤sizeLine;exact RC _)
 have cv:stored ([]:List (Int×Qr)) 1 v=[(1,v)]:=rfl
 rw [cv] at oV
 obtain ⟨b0,Dh,pf⟩:=SP.mp oV
 obtain ⟨fz,fS⟩:=cA.patch (l:=(a,RT C dx)::(dx,Sv es m)::pre) (tk:=ah.toks+1+1+1) (dr:=ah.drawn) (Φ:=JK C fl K') hx h1 e1 e2 nd (fun p hp=>(ja p.1 (c1 p hp)).1) c2 c3 (fun y ob h _ e=>mC.extBut y ob h e) Dh (fun m' si=>si.sameBut mC fun z=>(aA.dY x dn (by rw [e1];exact fV ⟨_,Mw,rfl⟩)).1 (z▸aA.ib)) fun D0=>⟨a,dx,es,m,vals,_,rfl,rfl,D0,hf,by have:=Pe b0 c v pf hW;rwa [Q9] at this⟩
 exact q aE _ _ fz (aP.toStep.trans (cO.toStep.trans fS))
theorem SE.A6 {C:Qt}{fl:List Qy}{K:List Qr→List (Qt×R3)→Prop} {q0:En}{x name:Qy}{np apos pos:Rd}{args:List QR}{fn:Qt}{ds:List D}{d:D}(hx:lk ρ x=some (kK C fl K)) (ha:rh X n sc args ρ b ds af ao) (fI:lk af x=some (kK C fl K)) (K':mE X.K C name fn) (hM:iC X n fn (kK C fl K) ds ao d q0 b₂) (Au:autoParam (name∉fl) bG) (hn:autoParam (okN x=true) bG) (dS:autoParam ((apos.endLine==pos.line)=true) bG)
  (qN:autoParam (∀ env,((backTo pos (QS args env)).all (fun x=>!x.1)&&(backToKw pos (keywordEach [] env)).all (fun x=>x.1.isSome)&&decide (args.length+([]:List Keyword).length+(if ([]:List Keyword).isEmpty then 0 else 1)<30))=true) cw)
  (cv:autoParam (∀ env,(backTo pos (QS args env)).any (·.1)=false) cw) (cy:autoParam (∀ env,∃ t rest,backTo pos (QS args env)=(false,t)::rest) IZ) :
  SE X n sc (.Call (.Attribute (.Name x np) name apos) args [] pos) ρ b d (aS af x q0) b₂:=fun A f g o s Q E R aY F q=>by
 obtain ⟨w',h1,ct,e1,e2,a,dx,es,m,vals,rest,rfl,rfl,nd,hf,EC⟩:=F.vars x _ hx
 obtain ⟨mm,te⟩:=F.fr
 refine di rfl (qN _) dS (Rb (aV F.kind h1 (okN.d hn).2 fun pl=>?_) (okN.d hn).1)
 refine UI (K:=X.K) (C:=C) (es:=es) (n:=m) te X.hK ⟨e2 _ QB,rfl,rfl,e2 _ in1⟩ K'.get K'.find K'.fn (jF hf Au) ?_
 refine Tz (P:=X.K.In) (by show ((backTo pos (QS args f.env)).any (·.1)||false)=false;rw [cv];rfl) (UL K'.keep) ?_
 have Ie:=ha pos A f g o s
 obtain ⟨tt,rr,et⟩:=cy f.env
 rw [et] at Ie ⊢
 refine Rv (Ie _ E R aY F fun vs bl cx bk aM aO bt=>⟨X.hK.keeps aM.bC,?_⟩)
 obtain ⟨w2,h2,OQ⟩:=aM.vars x _ fI
 have ew:=(aO.vk _ _ h1).unique h2
 subst ew
 refine Sy (hM A f bl cx af bk a (cx x) vs _ R aM (aM.lend x) OQ bt fun v g' os' s' C' rv he hl ja=>?_)
 obtain ⟨F',S'⟩:=aM.back (os':=os') fI C' h2 he hl ja
 exact q v g' _ s' F' (aO.trans S') rv
end
noncomputable def I7:List Int:=[16,32,32,4,4,4,2,128,192,160,128]
structure uQ (X:Cx):Prop where
 shape:∃ fd dv,(∀ g vw,aB g vw dv (I7.map D.int))∧i6 X 286 fd (aw (bO (top 44) 0)) (a9::eE 2) (bodyOf (bO (top 44) 0)) 1 dv
 Hp:∃ fd,i6 X 335 fd (aw (bO (top 48) 0)) [a9,"shape"] (bodyOf (bO (top 48) 0)) 2 []
 Mv:∃ fd,i6 X 314 fd (aw (bO (top 47) 0)) [a9,"kind","block","bonus"] (bodyOf (bO (top 47) 0)) 4 []
 add:∃ fd dv,(∀ g vw,aB g vw dv [.bytes #[]])∧i6 X 378 fd (aw (bO (top 48) 6)) [a9,"kind","block","bonus"] (bodyOf (bO (top 48) 6)) 3 dv
 Y:oL X.K
 qB:mE X.K 416 "add" 378
 mg:X.mg "MemDnode"=some (.ref 317)
 cls:kG X.K 289 (eE 2) 286
section
variable {X:Cx}{n:Nat}{sc:QM}{ρ af ay cN:Rw}{b ao b₂ eb:Array UInt8}
theorem SE.Ki {e:QR}{pos:Rd}{i:Int}(he:SE X n sc e ρ b (.int i) af ao):SE X n sc (.UnaryOp .USub e pos) ρ b (.int (-i)) af ao:=fun A f g o s Q E R aY F q=>by
 refine wpAny_UnaryOp (he A f g o s _ E R aY F fun v aE aN ah aA aP aW=>?_)
 obtain ⟨t,rfl⟩:=aW.bZ
 obtain ⟨aM,aO⟩:=aA.tok (ah.toks+1)
 exact PyProof.Rows.neg_int (q _ aE aN _ aM (aP.trans aO) (.int _ _))
theorem SE.EX {k:Nat}{pos:Rd}{x:List UInt8}:SE X n sc (.Constant (.bytes x) k pos) ρ b (.bytes x.toArray) ρ b:=fun A f g o s Q E R hs F h =>
 Constant_bytes (h _ g o _ (F.tok _).1 (F.tok _).2 (.bytes _ _))
theorem iO:lZ.Nodup:=av
theorem c7:fY.Nodup:=av
theorem b8.any {d:D}:b8 X (.val d) fun c v=>c=[]:=b8.val fun _ _ _=>rfl
theorem b8.int {i:Int}:b8 X (.val (.int i)) fun c v=>c=[]∧∃ t,v=.int i t:=b8.val fun g v r=>by
 obtain ⟨t,rfl⟩:=r.bZ
 exact ⟨rfl,t,rfl⟩
theorem b8.PN {x:Array UInt8}:b8 X (.val (.bytes x)) fun c v=>c=[]∧∃ t,v=.bytes x t:=b8.val fun g v r=>by
 obtain ⟨t,rfl⟩:=r.fA
 exact ⟨rfl,t,rfl⟩
noncomputable def KD:List Qr→List (Qt×R3)→Prop:=fun vals rest=>rest=[]∧∃ k t most bo,vals=[k,.int 256 t,most,bo]
theorem zf (L:uQ X) {k:D}{bo:D}:iC X (n+1) 314 (kK 317 lZ fun vals rest=>vals=[]∧rest=[]) [k,.int 256,bo] b .none (kK 317 lZ KD) b:=by
 obtain ⟨fd,hF⟩:=L.Mv
 have Y:=L.Y.dn
 refine iC.intro (args:=[k,.int 256,bo]) (names:=["kind","block","bonus"]) hF (fun _ _=>.nil) rfl av av
  (aG (S1.iG (k:=0) (K':=fun vals rest=>rest=[]∧∃ k,vals=[k]) Y iO av (SF.ip (ai rfl)) rfl rfl (fun _ _ _=>RC _) b8.any (fun vals rest c v hK hW=>by
   obtain ⟨rfl,rfl⟩:=hK
   subst hW
   exact ⟨rfl,v,rfl⟩))
  (aG (S1.iG (k:=1) (K':=fun vals rest=>rest=[]∧∃ k t,vals=[k,.int 256 t]) Y iO av (SF.ip (ai rfl)) rfl rfl (fun vals rest hK=>by obtain ⟨_,k,rfl⟩:=hK;exact QV _) b8.int (fun vals rest c v hK hW=>by
   obtain ⟨rfl,k,rfl⟩:=hK
   obtain ⟨rfl,t,rfl⟩:=hW
   exact ⟨rfl,k,t,rfl⟩))
  (aG (S1.iG (k:=2) (K':=fun vals rest=>rest=[]∧∃ k t m,vals=[k,.int 256 t,m]) Y iO av (SF.ip (SE.Ki aC)) rfl rfl (fun vals rest hK=>by obtain ⟨_,k,t,rfl⟩:=hK;exact QV _) b8.any (fun vals rest c v hK hW=>by
   obtain ⟨rfl,k,t,rfl⟩:=hK
   subst hW
   exact ⟨rfl,k,t,v,rfl⟩))
  (aG (S1.iG (k:=3) (K':=KD) Y iO av (SF.ip (ai rfl)) rfl rfl (fun vals rest hK=>by obtain ⟨_,k,t,m,rfl⟩:=hK;exact QV _) b8.any (fun vals rest c v hK hW=>by
   obtain ⟨rfl,k,t,m,rfl⟩:=hK
   subst hW
   exact ⟨rfl,k,t,m,v,rfl⟩)) bX)))) (.next rfl)
noncomputable def PY (X:Cx):List Qr→List (Qt×R3)→Prop:=fun vals rest=>∃ sh dn ob,vals=[sh,.ref dn]∧rest=[(dn,ob)]∧(dn==sysModules)=false∧ob.IsDictOf (intKind X.prog X.w) []
noncomputable def PX (X:Cx):List Qr→List (Qt×R3)→Prop:=fun vals rest=>∃ sh dn ob oc mv,vals=[sh,.ref dn,.ref oc]∧rest=[(dn,ob),(oc,mv)]∧(dn==sysModules)=false∧ob.IsDictOf (intKind X.prog X.w) []∧mv.IsDictOf (intKind X.prog X.w) []
inductive PW (p:Rn) (w:RE) (i:Int) (vals:List Qr) (rest:List (Qt×R3)):Prop
 | mk (sh:Qr) (dn:Qt) (ob:R3) (oc:Qt) (mv:R3) (t:UN) (h1:vals=[sh,.ref dn,.ref oc,.int i t]) (h2:rest=[(dn,ob),(oc,mv)]) (h3:(dn==sysModules)=false) (h4:ob.IsDictOf (intKind p w) []) (h5:mv.IsDictOf (intKind p w) [])
abbrev xO (X:Cx) (i:Int):=PW X.prog X.w i
theorem wZ (L:uQ X) {sh:D}:iC X (n+1) 335 (kK 416 fY fun vals rest=>vals=[]∧rest=[]) [sh] b .none (kK 416 fY (xO X 0)) b:=by
 obtain ⟨fd,hF⟩:=L.Hp
 have Y:=L.Y.set
 have jb:∀ c v,IY X c v→(c.map (·.1)).Nodup:=fun c v h=>by
  obtain ⟨a,ob,rfl,_⟩:=h
  simp
 refine iC.intro (args:=[sh]) (names:=["shape"]) hF (fun _ _=>.nil) rfl av av
  (aG (S1.iG (k:=0) (K':=fun vals rest=>rest=[]∧∃ k,vals=[k]) Y c7 av (SF.ip (ai rfl)) rfl rfl (fun _ _ _=>RC _) b8.any (fun vals rest c v hK hW=>by
   obtain ⟨rfl,rfl⟩:=hK
   subst hW
   exact ⟨rfl,v,rfl⟩))
  (aG (S1.iG (k:=1) (K':=PY X) Y c7 av SF.Dr rfl rfl (fun vals rest hK=>by obtain ⟨_,k,rfl⟩:=hK;exact QV _) (b8.raw jb) (fun vals rest c v hK hW=>by
   obtain ⟨rfl,k,rfl⟩:=hK
   obtain ⟨a,ob,rfl,rfl,h1,h2⟩:=hW
   exact ⟨k,a,ob,rfl,rfl,h1,h2⟩))
  (aG (S1.iG (k:=2) (K':=PX X) Y c7 av SF.Dr rfl rfl (fun vals rest hK=>by obtain ⟨_,_,_,rfl,_⟩:=hK;exact QV _) (b8.raw jb) (fun vals rest c v hK hW=>by
   obtain ⟨sh,dn,J5,rfl,rfl,h3,h4⟩:=hK
   obtain ⟨a,ob,rfl,rfl,h1,h2⟩:=hW
   exact ⟨sh,dn,J5,a,ob,rfl,rfl,h3,h4,h2⟩))
  (aG (S1.iG (k:=3) (K':=xO X 0) Y c7 av (SF.ip aC) rfl rfl (fun vals rest hK=>by obtain ⟨_,_,_,_,_,rfl,_⟩:=hK;exact QV _) b8.int (fun vals rest c v hK hW=>by
   obtain ⟨sh,dn,ob,oc,mv,rfl,rfl,h3,h4,h5⟩:=hK
   obtain ⟨rfl,t,rfl⟩:=hW
   exact ⟨sh,dn,ob,oc,mv,t,rfl,rfl,h3,h4,h5⟩)) bX)))) (.next rfl)
inductive PV (p:Rn) (w:RE) (vals:List Qr) (rest:List (Qt×R3)):Prop
 | mk (sh:Qr) (dn:Qt) (ob:R3) (oc:Qt) (mv:R3) (t:UN) (m md:Qt) (es:List RK) (k:Qr) (t2:UN) (most bo:Qr) (nn:Nat) (h1:vals=[sh,.ref dn,.ref oc,.int 1 t]) (h2:rest=[(dn,ob),(oc,mv),(m,RT 317 md),(md,Sv es nn)]) (h3:(dn==sysModules)=false) (h4:ob.IsDictOf (intKind p w) [(1,.ref m)]) (h5:mv.IsDictOf (intKind p w) []) (h6:FieldsAt lZ es [k,.int 256 t2,most,bo])
abbrev NF (X:Cx):=PV X.prog X.w
inductive PU (p:Rn) (w:RE) (vals:List Qr) (rest:List (Qt×R3)):Prop
 | mk (sh:Qr) (dn:Qt) (ob:R3) (oc:Qt) (mv:R3) (t:UN) (m md:Qt) (es:List RK) (k:Qr) (t2:UN) (most bo:Qr) (nn:Nat) (tb:UN) (h1:vals=[sh,.ref dn,.ref oc,.int 1 t]) (h2:rest=[(dn,ob),(oc,mv),(m,RT 317 md),(md,Sv es nn)]) (h3:(dn==sysModules)=false) (h4:ob.IsDictOf (intKind p w) [(1,.ref m)]) (h5:mv.IsDictOf (intKind p w) [(1,.bytes #[] tb)]) (h6:FieldsAt lZ es [k,.int 256 t2,most,bo])
abbrev BN (X:Cx):=PU X.prog X.w
theorem IK (L:uQ X):iC X (n+3) 378 (kK 416 fY (xO X 0)) [.int 7,.int 256] b (.int 1) (kK 416 fY (BN X)) b:=by
 obtain ⟨fd,dv,Lh,hF⟩:=L.add
 have Y:=L.Y.set
 have e0:decide ((7:Int)<1)=false:=rfl
 have e1:decide ((256:Int)<1)=false:=rfl
 have jb:∀ c v,JK 317 lZ KD c v→(c.map (·.1)).Nodup:=fun c v h=>by
  obtain ⟨a,dx,es,m,vals,rest,_,_,h,_⟩:=h
  exact h
 refine iC.intro (args:=[.int 7,.int 256]) (names:=["kind","block","bonus"]) hF Lh rfl av av
  (aG (S1.kI (ST.J4 (cg (ai rfl) aC (e0▸aQ.ltI)) fun _=>(cg (ai rfl) aC (e1▸aQ.ltI))) bX)
  (aG (S1.iG (k:=3) (K:=xO X 0) (K':=xO X 1) Y c7 av (SF.ip (cZ (SE.v8 (k:=3) Y c7 rfl rfl (fun vals rest hK=>by
   obtain ⟨_,_,_,_,_,t,rfl,_⟩:=hK;exact ⟨t,rfl⟩)) aC)) rfl rfl (fun vals rest hK=>by obtain ⟨_,_,_,_,_,_,rfl,_⟩:=hK;exact (by decide:3≤4)) b8.int (fun vals rest c v hK hW=>by
   obtain ⟨sh,dn,ob,oc,mv,t,rfl,rfl,h3,h4,h5⟩:=hK
   obtain ⟨rfl,t',rfl⟩:=hW
   exact ⟨sh,dn,ob,oc,mv,t',rfl,rfl,h3,h4,h5⟩))
  (aG (S1.yq (j:=1) (k:=3) (K:=xO X 1) (K':=NF X) Y c7 (SF.zg L.mg (L.Y.dn.keep) L.Y.dn.Je L.Y.dn.mA L.Y.dn.fn (fun g h x dx=>kK.start) (au (ai rfl) (au (ai rfl) (au (SE.rd (ai rfl)) aF))) (zf L)) rfl rfl rfl (b8.raw jb) (fun vals rest hK=>by
   obtain ⟨sh,dn,ob,oc,mv,t,rfl,rfl,h3,h4,h5⟩:=hK
   refine ⟨[],dn,ob,[(oc,mv)],t,rfl,rfl,rfl,h4,fun b0 c v hd hW=>?_⟩
   obtain ⟨a,dx,es,nn,vals,rest,rfl,rfl,_,hf,rfl,k,t2,most,bo,rfl⟩:=hW
   exact ⟨sh,dn,b0,oc,mv,t,a,dx,es,k,t2,most,bo,nn,rfl,rfl,h3,hd,h5,hf⟩))
  (aG (S1.yq (j:=2) (k:=3) (K:=NF X) (K':=BN X) Y c7 (SF.ip SE.EX) rfl rfl rfl b8.PN (fun vals rest hK=>by
   obtain ⟨sh,dn,ob,oc,mv,t,m,md,es,k,t2,most,bo,nn,rfl,rfl,h3,h4,h5,hf⟩:=hK
   refine ⟨[(dn,ob)],oc,mv,[(m,RT 317 md),(md,Sv es nn)],t,rfl,rfl,rfl,h5,fun b0 c v hd hW=>?_⟩
   obtain ⟨rfl,tb,rfl⟩:=hW
   exact ⟨sh,dn,ob,oc,b0,t,m,md,es,k,t2,most,bo,nn,tb,rfl,rfl,h3,h4,hd,hf⟩))
  (bF (bN (SE.v8 (k:=3) (K:=BN X) Y c7 rfl rfl (fun vals rest hK=>by
   obtain ⟨_,_,_,_,_,t,_,_,_,_,_,_,_,_,_,rfl,_⟩:=hK;exact ⟨t,rfl⟩)))))))) (.ret rfl)
end
section
variable {X:Cx}{n:Nat}{sc:QM}{ρ af ay cN:Rw}{b ao b₂ eb:Array UInt8}
theorem tI (L:uQ X):iC X (n+1) 286 (.obj 2 []) [] b .none (.obj 2 (I7.map D.int)) b:=by
 obtain ⟨fd,dv,Lh,hF⟩:=L.shape
 refine iC.intro (args:=[]) (names:=eE 2) hF Lh rfl av av
  (aG (iS (c:=2) (k:=0) (ai rfl) rfl rfl (show 0≤0 by decide)) (aG (iS (c:=2) (k:=1) (ai rfl) rfl rfl (show 1≤1 by decide)) (aG (iS (c:=2) (k:=2) (ai rfl) rfl rfl (show 2≤2 by decide)) (aG (iS (c:=2) (k:=3) (ai rfl) rfl rfl (show 3≤3 by decide))
  (aG (iS (c:=2) (k:=4) (ai rfl) rfl rfl (show 4≤4 by decide)) (aG (iS (c:=2) (k:=5) (ai rfl) rfl rfl (show 5≤5 by decide)) (aG (iS (c:=2) (k:=6) (ai rfl) rfl rfl (show 6≤6 by decide)) (aG (iS (c:=2) (k:=7) (ai rfl) rfl rfl (show 7≤7 by decide))
  (aG (iS (c:=2) (k:=8) (ai rfl) rfl rfl (show 8≤8 by decide)) (aG (iS (c:=2) (k:=9) (ai rfl) rfl rfl (show 9≤9 by decide)) (aG (iS (c:=2) (k:=10) (ai rfl) rfl rfl (show 10≤10 by decide)) bX))))))))))) (.next rfl)
theorem SF.view (L:uQ X) (hS:X.mg "Shape"=some (.ref 289)) (hM:X.mg "MemSet"=some (.ref 416)) {np DX pos AW:Rd}(hk:autoParam (sc.names.lookup ("Shape":Qy)=some .globalImplicit) bG) (vH:autoParam (sc.names.lookup ("MemSet":Qy)=some .globalImplicit) bG) :
  SF X (n+2) sc (.Call (.Name "MemSet" np) [.Call (.Name "Shape" DX) [] [] AW] [] pos) ρ b (kK 416 fY (xO X 0)) ρ b :=
 SF.zg hM L.Y.set.keep L.Y.set.Je L.Y.set.mA L.Y.set.fn (fun g h x dx=>kK.start) (au (SE.p0 (SF.Hq (n:=n+1) (en:=.obj 2 []) (q0:=.obj 2 (I7.map D.int)) (b₂:=b) hS L.cls.keep L.cls.Je L.cls.mA L.cls.fn (fun g h x dx cy h1 h2=>⟨x,dx,[],0,[],#[],rfl,rfl,cy,h1,h2,.nil _,.nil⟩) (tI L) hk)) aF) (wZ L) vH
end
noncomputable def cJ:VI where
 obj:=fun _=>none
 mt:=[]
 fp:=[]
 sub:=fun _ h=>h
 R:=fun _ b=>b=#[]
 lfp:=fun _ _ _ _ h=>(nomatch h)
 fj:=fun _ _ _ h _=>h
abbrev Cx.cB (X:Cx) (V:VI):Cx:={ X with V:=V }
mutual
noncomputable def nK:D→Bool
 | .none|.bool _|.int _|.str _|.bytes _=>true
 | .tup ds=>lP ds
 | .list ds=>lP ds
 | .inst _ _=>false
 | .ext _=>false
 | _=>false
noncomputable def lP:List D→Bool
 | []=>true
 | d::ds=>nK d&&lP ds
end
theorem Rep.vw {g:GM}{vw JP:Nat→Option Qt}{v:Qr}{d:D}(h:Rep g vw v d):nK d=true→Rep g JP v d :=
 Rep.rec (motive_1:=fun v d _=>nK d=true→Rep g JP v d) (motive_2:=fun vs ds _=>lP ds=true→aB g JP vs ds) (fun _=>.none) (fun b _=>.bool b) (fun i t _=>.int i t) (fun x t _=>.str x t) (fun b t _=>.bytes b t) (fun h1 h2 h3 _ r e=>.tup h1 h2 h3 (r e)) (fun h1 h2 h3 _ r e=>.list h1 h2 h3 (r e)) (fun _ _ _ _ _ e=>(Bool.false_ne_true e).elim) (fun _ e=>(Bool.false_ne_true e).elim) (fun _=>.nil) (fun _ _ h r e=>.cons (h (QX.mp e).1) (r (QX.mp e).2)) h
theorem FR.switch {B:QL}{prog:Rn}{w:RE}{A:QE}{f:FD}{g:GM}{o:Qy→List Qt}{ρ ρ':Rw}{b:Array UInt8}{s:Qs}{x:Qy}{X:Cx}(hp:X.prog=prog∧X.w=w) (F:FR B cJ A f g o ρ b s) (hx:lk ρ x=some (kK 416 fY (BN X)))
  (hf:f.comp=false) (Bc:∀ y e,lk ρ' y=some e→(y=x∧e=.val (.ext 0))∨(y≠x∧lk ρ y=some e∧∃ d,e=.val d∧nK d=true)):∃ P,(∀ c∈(e9 prog w P).fp,c∈o x)∧FR B (e9 prog w P) A f g (fun y=>if y=x then [] else o y) ρ' #[] s:=by
 obtain ⟨rfl,rfl⟩:=hp
 obtain ⟨v,h1,ct,e1,e2,a,dx,es,m,vals,rest,rfl,rfl,nd,lB,sh,dn,ob,oc,mv,t,mm,md,IB,k,t2,most,bo,nn,tb,rfl,rfl,h3,h4,h5,OP⟩:=F.vars x _ hx
 have m9:x≠bh:=fQ F.eC hx
 have ox:o x=[a,dx,dn,oc,mm,md]:=by rw [e1];rfl
 have sk:(e9 X.prog X.w ⟨a,dx,dn,oc,mm,md⟩).fp=[a,dx,dn,oc,mm,md]:=rfl
 have Er:(e9 X.prog X.w ⟨a,dx,dn,oc,mm,md⟩).mt=[oc,md]:=rfl
 have mo:∀ c,c∈(e9 X.prog X.w ⟨a,dx,dn,oc,mm,md⟩).fp↔c∈o x:=fun c=>by rw [sk,ox]
 have hR:(e9 X.prog X.w ⟨a,dx,dn,oc,mm,md⟩).R s.heap #[]:=by
  refine ⟨nd,h3,e2 _ QB,⟨es,m,sh,t,e2 _ in1,lB⟩,SP.mpr ⟨ob,e2 _ Dd,h4⟩,⟨tb,SP.mpr ⟨mv,e2 _ Bb,h5⟩⟩,e2 _ in4,⟨IB,nn,k,t2,most,bo,e2 _ Jj,OP⟩⟩
 have oy:∀ y c,c∈(if y=x then [] else o y)→y≠x∧c∈o y:=fun y c h=>by
  by_cases q:y=x
  ·rw [if_pos q] at h;cases h
  ·rw [if_neg q] at h;exact ⟨q,h⟩
 have Kj:∀ c,Mod (e9 X.prog X.w ⟨a,dx,dn,oc,mm,md⟩) f (fun y=>if y=x then [] else o y) c→Mod cJ f o c:=fun c h=>by
  rcases h with h|h|⟨y,h⟩
  ·exact .inl h
  ·exact .inr (.inr ⟨x,(mo c).mp ((e9 X.prog X.w ⟨a,dx,dn,oc,mm,md⟩).sub c h)⟩)
  ·exact .inr (.inr ⟨y,(oy y c h).2⟩)
 refine ⟨⟨a,dx,dn,oc,mm,md⟩,fun c h=>(mo c).mp h,{ F with f9:=fun c h=>F.f9 c (Kj c h),mB:=fun c h=>F.mB c (Kj c h),live:=fun c h=>F.live c (Kj c h),dY:=fun y c h=>⟨(F.dY y c (oy y c h).2).1,fun q=>F.cX y x (oy y c h).1 c (oy y c h).2 ((mo c).mp q)⟩,cX:=fun y z q c h h'=>F.cX y z q c (oy y c h).2 (oy z c h').2,ic:=fun y c h=>F.ic y c (oy y c h).2,uu:=fun c h q=>(F.dY x c ((mo c).mp q)).1 h,ry:=fun c h=>F.ic x c ((mo c).mp h),view:=hR,vars:=fun y e h=>?_,cells:=fun y c hc=>?_,eC:=?_ }⟩
 ·rcases Bc y e h with ⟨rfl,rfl⟩|⟨q,h',d,rfl,hd⟩
  ·exact ⟨.ref a,h1,.ext rfl⟩
  ·obtain ⟨u,k1,k2⟩:=F.vars y _ h'
   exact ⟨u,k1,Rep.vw k2 hd⟩
 ·obtain ⟨c1,c2,c3,c4,c5,c6⟩:=F.cells y c hc
  exact ⟨c1,c2,c3,fun q=>c5 x ((mo c).mp q),fun z q=>c5 z (oy z c q).2,c6⟩
 ·cases q:lk ρ' bh with
  | none=>rfl
  | some e =>
   rcases Bc _ _ q with ⟨h,_⟩|⟨_,h',_⟩
   ·exact absurd h.symm m9
   ·exact dP F.eC h'
section
variable {A:QE}{g:GM}{s ah:Qs}{env:TU}{m cm:Qy→Option Qr}{ki:Rw}
theorem FR.top (hA:A.frames=some []) (x:InCallC s env.locals m env.cells cm ah) (hf:env.frame=some env.locals) (hk:env.scope.kind=.function) (hg:env.globals=QY∧env.builtins=Ra)
  (vM:∀ y,env.kindOf y=some .cell→(env.cells.lookup y).isSome=true) (gens:s.gens=#[]) (bf:∀ a ob,g a=some ob→s.heap.get? a=some ob)
  (hv:∀ y e,lk ki y=some e→∃ v d,cI ah.heap env y v∧e=.val d∧Rep g cJ.obj v d) (ht:lk ki bh=none):FR s.heap cJ (A.deeper env) (bB env []) g oN ki #[] ah:=by
 have keep:=x.toInCall.keep
 obtain ⟨h₁,tk,jd⟩:=x.toInCall.same
 obtain ⟨d1,d2⟩:=dZ hA hf
 have Ew:fL A=[]:=by unfold fL;rw [hA];rfl
 rw [Ew] at d2
 have Lf:s.heap.get? env.locals=none:=get_none x.toInCall.fresh
 have lD:∀ a,s.heap.get? a=none→g a=none:=fun a h=>by
  cases q:g a with
  | none=>rfl
  | some ob=>rw [bf a ob q] at h;cases h
 have kJ:∀ a,a∈fL (A.deeper env)→a=env.locals:=fun a h=>by rw [d2] at h;exact bq h
 have md:∀ a,Mod cJ (bB env []) oN a→a∈(bB env []).fx:=fun a h=>by
  rcases h with h|h|⟨z,h⟩
  ·exact h
  ·cases h
  ·cases h
 refine { bC:=fun a ob q=>keep a ob q,gens:=by rw [jd];exact gens,bf:=fun a ob q=>keep a ob (bf a ob q),lE:=fun a h=>kJ a h▸lD _ Lf,f9:=fun a h=>lD a (dT x (md a h)).1,mB:=fun a h=>(dT x (md a h)).1,fB:=fun a h=>kJ a h▸Lf,live:=fun a h=>(dT x (md a h)).2,dY:=fun y a h=>(nomatch h),cX:=fun y z _ a h=>(nomatch h),ic:=fun y a h=>(nomatch h),uu:=fun a h=>(fun q=>nomatch q),ry:=fun a h=>(nomatch h),view:=rfl,vars:=fun y e h=>?_,kind:=hk,glob:=hg,ib:=QB,kE:=⟨_,x.toInCall.ns⟩,LB:=x.toInCall.fresh,cells:=fun y c hc=>?_,lg:=vM,rb:=fun y z c hy hz=>Va x.apart (mem_of_lookup hy) (mem_of_lookup hz),da:=?_,eC:=ht,pin:=fun p h=>(nomatch h) }
 ·obtain ⟨v,d,h1,rfl,h2⟩:=hv y e h
  exact ⟨v,h1,h2⟩
 ·have Lj:=x.cell y c hc
  have FE:=x.above y c (mem_of_lookup hc)
  refine ⟨R0 FE,⟨_,Lj⟩,fun q=>R0 FE (kJ c q),(fun q=>nomatch q),fun z hz=>(nomatch hz),fun _ _=>vQ hc⟩
 ·refine ⟨[env],d1,fun IC he=>?_⟩
  cases bq he
  obtain ⟨ob,es,n,e,hd,_⟩:=x.toInCall.ns
  exact ⟨hk,_,ob,hf,e,⟨_,_,hd⟩,Lf⟩
end
noncomputable def Dv (s s':Qs):Prop:=s'.gens=#[]∧s'.os=s.os∧∀ a ob,s.heap.get? a=some ob→s'.heap.get? a=some ob
noncomputable def xK (X:Cx) (n:Nat) (sc:QM) (body:List Rr) (ρ:Rw):Prop :=
 ∀ (A:QE) (f:FD) (g:GM) (o:Qy→List Qt) (s:Qs) (Q:Vr→Qs→Prop) (E:Qr→Qs→Prop),cG A n→f.env.scope=sc→mX A f→FR X.B cJ A f g o ρ #[] s →
  (∀ s',s'.gens=#[]→s'.os=s.os→(∀ a ob,s.heap.get? a=some ob→a∉f.fx→(∀ x,a∉o x)→a∉fL A→s'.heap.get? a=some ob)→Q (.ret (.bool true)) s')→QF (QJ X.prog X.w) A (Vl body f.env) Q E s
section
variable {X:Cx}{n:Nat}{sc:QM}{ρ af ay:Rw}
theorem xK.cons {st:Rr}{rest:List Rr}(h1:S1 (X.cB cJ) n sc st ρ #[] (.next af #[])) (h2:xK X n sc rest af):xK X n sc (st::rest) ρ:=fun A f g o s Q E R hs I F k =>
 R7 (h1 A f g o s _ E R hs I F fun g' o' s' F' S'=>h2 A f g' o' s' Q E R hs I F' fun dG k1 k2 k3=>k dG k1 (k2.trans S'.os) fun a ob e h3 h4 h5=>by
  have nm:¬ Mod cJ f o a:=fun h=>by
   rcases h with h|h|⟨z,h⟩
   ·exact h3 h
   ·cases h
   ·exact h4 z h
  refine k3 a ob (S'.kept.keep a ob e nm h5) h3 (fun x hx=>?_) h5
  rcases S'.on x a hx with ⟨y,h⟩|h
  ·exact h4 y h
  ·rw [e] at h;cases h)
theorem xK.switch {x:Qy}{body:List Rr}{ρ':Rw}(hx:lk ρ x=some (kK 416 fY (BN X))) (Bc:∀ y e,lk ρ' y=some e→(y=x∧e=.val (.ext 0))∨(y≠x∧lk ρ y=some e∧∃ d,e=.val d∧nK d=true))
  (h:∀ P,∃ dQ b',SS (X.cB (e9 X.prog X.w P)) n sc body ρ' #[] (.ret (.bool true) dQ b')):xK X n sc body ρ:=fun A f g o s Q E R hs I F k=>by
 obtain ⟨P,sk,F'⟩:=F.switch (X:=X) ⟨rfl,rfl⟩ hx I.2.2.1 Bc
 obtain ⟨dQ,b',h⟩:=h P
 refine h A f g _ s Q E R hs I F' fun v g' o' s' th S' rv=>?_
 cases rv
 refine k s' th.gens S'.os fun a ob e h3 h4 h5=>S'.kept.keep a ob e (fun h=>?_) h5
 rcases h with h|h|⟨z,h⟩
 ·exact h3 h
 ·exact h4 x (sk a ((e9 X.prog X.w P).sub a h))
 ·by_cases q:z=x
  ·simp only [q,if_true] at h;cases h
  ·simp only [q,if_false] at h;exact h4 z h
end
theorem xa {X:Cx}{n:Nat}{A:QE}{g:GM}{s:Qs}{a:Qt}{fd:RD}{sc:QM}{names:List Qy}{body:List Rr}{ds:List D}{vs:List Qr}{Q:Qr→Qs→Prop}{E:Qr→Qs→Prop}(hF:l8 X a fd sc names body) (hB:X.B=s.heap) (hA:A.frames=some []) (hl:ds.length=names.length) (hN:o8 sc names=true)
  (R:cG A (n+1)) (gens:s.gens=#[]) (bf:∀ a ob,g a=some ob→s.heap.get? a=some ob) (hr:aB g cJ.obj vs ds) (h:xK X n sc body (names.zip (ds.map En.val))) (k:∀ s',Dv s s'→Q (.bool true) s'):QF (QJ X.prog X.w) A (PySem.call (.ref a) vs) Q E s:=by
 obtain ⟨ob,ho,hd⟩:=hF.obj
 have aY:=hF.Fg
 have td:vs.length=names.length:=hr.length.trans hl
 simp only [o8,R5,R4,decide_eq_true_eq,Uc,beq_iff_eq,bne_iff_ne] at hN
 obtain ⟨xj,EB⟩:=hN
 have jc:∀ p∈names.zip vs,p.1∈names:=fun p hp=>(Ue (a:=p.1) (b:=p.2) hp).1
 have st:∀ a ob,X.B.get? a=some ob→s.heap.get? a=some ob:=fun a ob e=>hB▸e
 refine Sy (Tp (fd:=fd) (binds:=names.zip vs) R.d (st _ _ ho) hd (X.lim.keeps st) (hF.code.keeps st) hF.body (hF.bind vs td) hF.FJ (fun p hp=>?_) (fun ah x=>?_) (aY▸hF.co) (aY▸hF.gen) (aY▸hF.kind))
 ·rw [aY]
  rcases (xj p.1 (jc p hp)).1 with q|q
  ·exact .inl q
  ·exact .inr ⟨q,cellsFrom_some _ _ _ q⟩
 ·generalize gD:callEnvC fd s.heap.objs.size a=env at x ⊢
  have e1:env.scope=sc:=by rw [← gD];exact aY
  have e2:env.frame=some env.locals:=by rw [← gD];rfl
  have e3:env.globals=QY:=by rw [← gD];exact hF.glob
  have e4:env.builtins=Ra:=by rw [← gD];exact hF.blt
  have e5:env.cells=cellsFrom (s.heap.objs.size+1) sc.names []:=by rw [← gD,← aY];rfl
  have vM:∀ y,env.kindOf y=some .cell→(env.cells.lookup y).isSome=true:=fun y q=>by
   rw [e5]
   refine cellsFrom_some _ _ _ ?_
   rw [← e1];exact q
  have hz:(names.zip vs).map (·.1)=names:=fC _ _ td.symm
  have aA:FR s.heap cJ (A.deeper env) (bB env []) g oN (names.zip (ds.map En.val)) #[] ah:=by
   refine FR.top hA x e2 (by rw [e1];exact hF.kind) ⟨e3,e4⟩ vM gens bf (fun y e hy=>?_) ?_
   ·obtain ⟨v,d,rfl,h2,h3⟩:=tY hr hy
    refine ⟨v,d,?_,rfl,h3⟩
    have Hy:y∈names:=by
     have:=lU hy
     rwa [fC _ _ (by rw [Qu];exact hl.symm)] at this
    rcases (xj y Hy).1 with q|q
    ·have q':env.kindOf y=some .local:=by show env.scope.names.lookup y=_;rw [e1];exact q
     exact .inl ⟨q',_,x.toInCall.ns,iA q' _ _ (by rw [hz];exact EB) h2⟩
    ·have q':env.kindOf y=some .cell:=by show env.scope.names.lookup y=_;rw [e1];exact q
     obtain ⟨c,hc⟩:=RU.mp (vM y q')
     refine .inr ⟨.inl q',c,hc,?_⟩
     have:=x.cell y c hc
     rwa [oG (by rw [q'];exact fun z=>nomatch z) _ _ (by rw [hz];exact EB) h2] at this
   ·cases q:lk (names.zip (ds.map En.val)) bh with
    | none=>rfl
    | some e =>
     have:=lU q
     rw [fC _ _ (by rw [Qu];exact hl.symm)] at this
     exact absurd rfl (xj _ this).2
  rw [← hB] at aA
  obtain ⟨d1,d2⟩:=dZ hA e2
  have Ew:fL A=[]:=by unfold fL;rw [hA];rfl
  have I:mX (A.deeper env) (bB env []):=⟨⟨[],d1⟩,e2,rfl,fun p h=>nomatch h⟩
  refine h (A.deeper env) (bB env []) g oN ah _ _ R.deeper e1 I aA fun s' k1 k2 k3=>?_
  obtain ⟨h₁,tk,es⟩:=x.toInCall.same
  refine k s' ⟨k1,k2.trans (by rw [es]),fun a ob e=>k3 a ob (x.toInCall.keep a ob e) (fun q=>?_) (fun y q=>nomatch q) fun q=>?_⟩
  ·rw [(dT x q).1] at e;cases e
  ·rw [d2,Ew] at q
   rw [bq q,get_none x.toInCall.fresh] at e;cases e
theorem Kn {α:Type}{ρ:List (Qy×α)} {x y z u:Qy}{a b c:α}:lk (aS (aS (aS ρ z c) y b) x a) u=if u=x then some a else if u=y then some b else if u=z then some c else lk ρ u:=by rw [bx,bx,bx]
theorem rm {p:Prop}(h:autoParam p wy):p:=h
section
variable {X:Cx}{P:bj}{n:Nat}{sc:QM}{b:Array UInt8}
theorem bQ.all {t elt:QR}(I:Rw→Prop) (φ:D→D):∀ (ds:List D),(∀ d∈ds,∀ ρ,I ρ→∃ ρ',pA sc true t d ρ ρ'∧I ρ'∧SE X n sc elt ρ' b (φ d) ρ' b)→∀ ρ,I ρ→bQ X n sc t [] elt b ds ρ (ds.map φ):=fun ds=>by
 induction ds with
 | nil =>
  exact fun _ _ _=>.nil
 | cons d ds bA =>
  intro h ρ hI
  obtain ⟨ρ',h1,h2,h3⟩:=h d QB ρ hI
  exact .yes h1 .nil h3 (bA (fun d hd=>h d (QD _ hd)) ρ' h2)
theorem bQ.some {t elt c:QR}(I:Rw→Prop) (p:D→Bool) (φ:D→D):∀ (ds:List D),(∀ d∈ds,∀ ρ,I ρ→∃ ρ',pA sc true t d ρ ρ'∧I ρ'∧ST X n sc c ρ' b (p d) ρ' b∧(p d=true→SE X n sc elt ρ' b (φ d) ρ' b))→∀ ρ,I ρ→bQ X n sc t [c] elt b ds ρ ((ds.filter p).map φ):=fun ds=>by
 induction ds with
 | nil =>
  exact fun _ _ _=>.nil
 | cons d ds bA =>
  intro h ρ hI
  obtain ⟨ρ',h1,h2,h3,h4⟩:=h d QB ρ hI
  have ih:=bA (fun d hd=>h d (QD _ hd)) ρ' h2
  cases e:p d with
  | true =>
   rw [List.filter_cons_of_pos e,QT]
   exact .yes h1 (.one (e▸h3)) (h4 e) ih
  | false =>
   rw [List.filter_cons_of_neg (by simp [e])]
   exact .no h1 (.one (e▸h3)) ih
def dD:List UInt8→Int
 | []=>0
 | c::r=>c.toNat+256*dD r
end
section
variable {X:Cx}{P:bj}{n:Nat}{sc:QM}{b:Array UInt8}
noncomputable def pN:D→Int
 | .tup [.int i,.int c]=>c*2 ^ (8*i).toNat
 | _=>0
theorem wz:∀ (l:List UInt8) (k:Nat),(((l.map fun (c:UInt8)=>D.int (c.toNat:Int)).mapIdx fun i d=>D.tup [.int ((i+k:Nat):Int),d]).map pN).sum=256 ^ k*dD l:=fun l=>by
 induction l with
 | nil =>
  exact fun k=>by simp [dD]
 | cons c r bA =>
  intro k
  have ih:=bA (k+1)
  simp only [QT,List.mapIdx_cons,Uw,dD]
  have e:(fun (i:Nat) (d:D)=>D.tup [.int ((i+1+k:Nat):Int),d])=fun i d=>D.tup [.int ((i+(k+1):Nat):Int),d]:=by
   funext i d;congr 4;exact @CR _ _
  rw [e,ih]
  have e2:pN (.tup [.int ((0+k:Nat):Int),.int (c.toNat:Int)])=(c.toNat:Int)*256 ^ k:=by
   show (c.toNat:Int)*2 ^ (8*((0+k:Nat):Int)).toNat=_
   congr 1
   have:(8*((0+k:Nat):Int)).toNat=8*k:=by exact @G0 _
   rw [this,Int.pow_mul];rfl
  rw [e2,Int.pow_succ]
  rw [Int.mul_add,← Int.mul_assoc,Int.mul_comm (256 ^ k) (c.toNat:Int)]
theorem eu (L:cP X P) {bs:Array UInt8}(hz:bs.size≤10000):cb X (n+1) 82 [.bytes bs] b (.ok (.int (dD bs.toList)) b):=by
 obtain ⟨fd,hF⟩:=L.fn 0 _ rfl
 have key:dD bs.toList=((((dF (bs.toList.map fun (c:UInt8)=>D.int (c.toNat:Int))).map D.tup).map pN)).sum:=by
  have:=wz bs.toList 0
  rw [show (256:Int) ^ 0=1 from rfl,Int.one_mul] at this
  rw [← this]
  congr 2
  unfold dF
  refine List.ext_getElem? fun i=>?_
  rw [List.getElem?_mapIdx,QU,QU,List.getElem?_mapIdx,QU,Option.map_map]
  cases bs.toList[i]?<;>rfl
 rw [key]
 have hm:∀ d∈(dF (bs.toList.map fun (c:UInt8)=>D.int (c.toNat:Int))).map D.tup,∃ (i:Nat) (c:UInt8),i<bs.size∧d=.tup [.int (i:Int),.int (c.toNat:Int)]:=fun d hd=>by
  obtain ⟨l,hl,rfl⟩:=dj hd
  obtain ⟨i,hi⟩:=List.getElem?_of_mem hl
  obtain ⟨d',h1,rfl⟩:=jU hi
  rw [QU] at h1
  obtain ⟨c,h2,rfl⟩:=rO h1
  exact ⟨i,c,by simpa using (g7 h2).1,rfl⟩
 have hlen:((dF (bs.toList.map fun (c:UInt8)=>D.int (c.toNat:Int))).map D.tup).length≤100000:=by
  rw [Qu,gb,Qu];show bs.size≤_;exact Qx hz av
 have e2:((((dF (bs.toList.map fun (c:UInt8)=>D.int (c.toNat:Int))).map D.tup).map pN).map D.int)=((dF (bs.toList.map fun (c:UInt8)=>D.int (c.toNat:Int))).map D.tup).map fun d=>.int (pN d):=by rw [Rk];rfl
 exact bV hF rfl av (bF (bN (SE.sum (e2▸i7 (own:=false) (fW:=[]) (IT.ID (ai rfl)) av .nil .nil (bQ.all (fun _=>True) (fun d=>.int (pN d)) _ (fun d hd ρ _=>by
  obtain ⟨i,c,hi,rfl⟩:=hm d hd
  have hc:c.toNat<256:=c.toNat_lt
  refine ⟨_,.tup (xs:=["place","octet"]) (.cons (.cons .nil)) rfl av av,trivial,SE.shl (ai (aR rfl)) (dH aC (ai (aR (aR rfl))) (.of_left (PySem.intBits_le_64 av av))) (@GZ _) ((cS (ag (aq aj (ae 10000)) (ag (aD aa aj) (bM (BL 8 (aL aa)) (aJ 1000000))))) hz hi) (show c.toNat<2 ^ 64 from Nat.lt_trans hc av)⟩) _ trivial) hlen))))
end
section
variable {X:Cx}{P:bj}{n:Nat}{b:Array UInt8}
noncomputable def gc (x:Array UInt8) (at_:Int):List D:=[.bytes x,.int at_]
theorem l0 (L:cP X P) {x:Array UInt8}{at_:Int}:gJ X (n+1) 107 0 [] [.bytes x,.int at_] b .none (gc x at_) b:=by
 obtain ⟨fd,hF⟩:=L.cur
 exact gJ.Mm (iC.intro (args:=[.bytes x,.int at_]) (names:=["octets","at"]) hF (fun _ _=>.nil) rfl av av (aG (iS (c:=0) (k:=0) (ai rfl) rfl rfl (show 0≤0 by decide)) (aG (iS (c:=0) (k:=1) (ai rfl) rfl rfl (show 1≤1 by decide)) bX)) (.next rfl))
theorem xq (L:cP X P) {x:Array UInt8}{at_:Int}(hz:x.size≤1000000):gJ X (n+1) 114 0 (gc x at_) [] b (.int (x.size-at_)) (gc x at_) b:=by
 obtain ⟨fd,hF⟩:=L.fn 3 _ rfl
 exact gJ.intro (names:=[]) hF rfl av av (bF (bN (SE.sub (SE.pd (SE.qh (k:=0) rfl rfl rfl) (Qx hz av)) (SE.qh (k:=1) rfl rfl rfl)))) (.ret rfl)
noncomputable def b6 (x:Array UInt8) (at_ many:Int):Array UInt8:=KBy.picked x (some at_) (some (at_+many))
theorem qe (L:cP X P) {x:Array UInt8}{at_ many:Int}(hz:x.size≤1000000) (hm:many≤x.size-at_):gJ X (n+2) 121 0 (gc x at_) [.int many] b (.bytes (b6 x at_ many)) (gc x (at_+many)) b:=by
 obtain ⟨fd,hF⟩:=L.fn 4 _ rfl
 have e0:decide (many > x.size-at_)=false:=by simp;exact (Lq 1 2 [] (ag (bM bc (fy (aL aa) mW)) (bM bc (fy (aL aa) mW)))) hm
 exact gJ.intro (names:=["many"]) hF rfl av av
  (aG (S1.kI (cg (ai rfl) (SE.zc rfl (.head _) (xq L hz)) (e0▸aQ.Iv)) bX)
  (aG (cj (SE.rd (SE.o7 (SE.qh (k:=0) rfl rfl rfl) (.some (SE.qh (k:=1) rfl rfl rfl)) (.some (cZ (SE.qh (k:=1) rfl rfl rfl) (ai rfl))) hz)))
  (aG (iS (k:=1) (cZ (SE.qh (k:=1) rfl rfl rfl) (ai rfl)) rfl rfl (show 1≤2 by decide))
  (bF (bN (ai rfl)))))) (.ret rfl)
end
section
variable {X:Cx}{P:bj}{n:Nat}{sc:QM}{ρ af ay:Rw}{b ao b₂:Array UInt8}
theorem SE.EU {l aW bt:QR}{yD yC:Vs}{pos:Rd}{d e k:D}{t u:Bool}(hl:SE X n sc l ρ b d af ao) (hr:SE X n sc aW af ao e ay b₂) (hk:SE X n sc bt ay b₂ k ay b₂) (hc:aQ X n yD d e t) (Ax:aQ X n yC e k u)
  (hm:autoParam (lastMarks [yD,yC] [aW,bt]=false) wy):SE X n sc (.Compare l [yD,yC] [aW,bt] pos) ρ b (.bool (t&&u)) ay b₂:=fun A f g o s Q E R hs F q=>by
 refine Compare_chain (hl A f g o s _ E R hs F fun v aE aN ah aA aP J2=>chain_link (hr A f aE aN ah _ E R hs aA fun w bl cx bk aM aO F5=>hc A bl bk _ E v w R aM.bf (J2.mono aO.gm) F5 (Se ?_))) hm
 cases t with
 | false=>exact q _ bl cx bk aM (aP.trans aO) (.bool false)
 | true =>
  refine chain_last (hk A f bl cx bk _ E R hs aM fun y gO kn b4 cA cO J1=>Ax A gO b4 _ E w y R cA.bf (F5.mono cO.gm) J1 ?_)
  exact q _ gO kn b4 cA ((aP.trans aO).trans cO) (.bool u)
theorem cC (L:cP X P) {x:Array UInt8}{at_ many:Int}(hz:x.size≤1000000) (hm:many≤x.size-at_) (hs:(b6 x at_ many).size≤10000):gJ X (n+3) 128 0 (gc x at_) [.int many] b (.int (dD (b6 x at_ many).toList)) (gc x (at_+many)) b:=by
 obtain ⟨fd,hF⟩:=L.fn 5 _ rfl
 obtain ⟨EK,hN⟩:=L.fn 0 _ rfl
 exact gJ.intro (names:=["size"]) hF rfl av av (bF (bN (bp (L.gf 0 _ rfl) hN (au (SE.iV rfl (ai rfl) rfl (.tail _ (.head _)) (qe L hz hm)) aF) (eu L hs)))) (.ret rfl)
end
section
variable {X:Cx}{P:bj}{n:Nat}{sc:QM}{ρ af ay:Rw}{b ao b₂:Array UInt8}
noncomputable def pq (c:UInt8):Qy:=⟨#[c.toNat]⟩
noncomputable def nB (bs:List UInt8):Qy:=Txt.join "" (bs.map pq)
noncomputable def jX:D→Int
 | .int i=>i
 | _=>0
theorem uc (l:List UInt8) (h:l.length≤10000):JoinOk "" (l.map pq)=true:=by
 have key:∀ (l:List UInt8) (acc:Nat),(l.map pq).foldl (fun a (x:Qy)=>a+x.length+("":Qy).length) acc=acc+l.length:=by
  intro l
  induction l with
  | nil=>intro acc;rfl
  | cons c r ih =>
   intro acc
   rw [QT,RY,ih,QC]
   have:(pq c).length=1:=rfl
   have h0:("":Qy).length=0:=rfl
   exact CX this h0
 unfold JoinOk
 rw [List.foldl_toArray,key]
 rw [S0]
 show decide (_ > sizeLine)=false
 rw [Rq]
 exact decide_eq_false (CW h)
theorem o9 (L:cP X P) {bs:Array UInt8}(hz:bs.size≤10000) (ht:∀ c∈bs.toList,32≤c.toNat∧c.toNat<127):cb X (n+2) 92 [.bytes bs] b (.ok (.str (nB bs.toList)) b):=by
 obtain ⟨fd,hF⟩:=L.fn 1 _ rfl
 have hl:(bs.toList.map fun (c:UInt8)=>D.int (c.toNat:Int)).length≤100000:=by rw [Qu];show bs.size≤_;exact Qx hz av
 have e1:(bs.toList.map fun _=>true).map D.bool=(bs.toList.map fun (c:UInt8)=>D.int (c.toNat:Int)).map fun d=>.bool (decide (32≤jX d)&&decide (jX d<127)):=by
  rw [Rk,Rk]
  refine SD fun c hc=>?_
  obtain ⟨h1,h2⟩:=ht c hc
  have h3:decide ((32:Int)≤jX (.int (c.toNat:Int)))=true:=decide_eq_true (by show (32:Int)≤(c.toNat:Int);exact (dW (ag (aq (ae 32) aa) (ag (aD aa (ae 127)) (bM (aJ 32) (aL aa))))) h1 h2)
  have h4:decide (jX (.int (c.toNat:Int))<(127:Int))=true:=decide_eq_true (by show (c.toNat:Int)<127;exact (dW (ag (aq (ae 32) aa) (ag (aD aa (ae 127)) (cU (aL aa) (aJ 127))))) h1 h2)
  show D.bool true=D.bool (decide ((32:Int)≤jX (.int (c.toNat:Int)))&&decide (jX (.int (c.toNat:Int))<(127:Int)))
  rw [h3,h4];rfl
 have e2:(bs.toList.map pq).map D.str=(bs.toList.map fun (c:UInt8)=>D.int (c.toNat:Int)).map fun d=>.str ⟨#[(jX d).toNat]⟩:=by
  rw [Rk,Rk]
  exact SD fun c hc=>rfl
 have e3:(bs.toList.map fun _=>true).all id=true:=by simp
 have jc:∀ d∈bs.toList.map fun (c:UInt8)=>D.int (c.toNat:Int),∃ c:UInt8,d=.int (c.toNat:Int):=fun d hd=>by
  obtain ⟨c,_,rfl⟩:=dj hd;exact ⟨c,rfl⟩
 have eF:(!(bs.toList.map fun _=>true).all id)=false:=by rw [e3];rfl
 exact bV hF rfl av (aG (S1.kI (eF▸ST.not (ST.val (SE.all (e1▸i7 (own:=false) (fW:=[]) (IT.bytes (ai rfl)) av .nil .nil (bQ.all (fun _=>True) _ _ (fun d hd ρ _=>by
   obtain ⟨c,rfl⟩:=jc d hd
   exact ⟨_,.name av av,trivial,SE.EU aC (ai (aR rfl)) aC aQ.N3 aQ.ltI⟩) _ trivial) hl)))) bX)
  (bF (bN (SE.join (e2▸i7 (own:=false) (fW:=[]) (IT.bytes (ai rfl)) av .nil .nil (bQ.all (fun _=>True) _ _ (fun d hd ρ _=>by
   obtain ⟨c,rfl⟩:=jc d hd
   have:=c.toNat_lt
   exact ⟨_,.name av av,trivial,SE.chr (ai (aR rfl)) (Int.natCast_nonneg _) (by show (c.toNat:Int)≤1114111;exact (dW (ag (aD aa (ae (2 ^ 8))) (bM (aL aa) (aJ 1114111)))) this)⟩) _ trivial) hl) (uc _ hz)))))
end
section
variable {X:Cx}{P:bj}{n:Nat}{sc:QM}{ρ af ay:Rw}{b ao b₂:Array UInt8}
theorem qd (L:cP X P) {x t:Array UInt8}{at_ k:Int}(hz:x.size≤10000) (h1:1≤x.size-at_) (hk:dD (b6 x at_ 1).toList=k) (hm:k≤x.size-(at_+1)) (ht:b6 x (at_+1) k=t) (hc:∀ c∈t.toList,32≤c.toNat∧c.toNat<127) :
  gJ X (n+4) 135 0 (gc x at_) [] b (.str (nB t.toList)) (gc x (at_+1+k)) b:=by
 obtain ⟨fd,hF⟩:=L.fn 6 _ rfl
 obtain ⟨EK,hN⟩:=L.fn 1 _ rfl
 subst hk ht
 have z1:(b6 x at_ 1).size≤10000:=Qx (KBc.size_picked_le _ _ _) hz
 have z2:(b6 x (at_+1) (dD (b6 x at_ 1).toList)).size≤10000:=Qx (KBc.size_picked_le _ _ _) hz
 exact gJ.intro (names:=[]) hF rfl av av (bF (bN (bp (L.gf 1 _ rfl) hN (au (SE.iV rfl (SE.iV rfl aC rfl (.tail _ (.tail _ (.head _))) (cC L (Qx hz av) h1 z1)) rfl (.tail _ (.head _)) (qe L (Qx hz av) hm)) aF) (o9 L z2 hc)))) (.ret rfl)
noncomputable def k8 (salt:Int):Int:=Builtin.bitXor salt 2654435769
noncomputable def fK (h:Int) (c:Nat):Int:=(Builtin.bitXor h c*16777619).fmod (2 ^ 32)
noncomputable def vN (h:Int):Int :=
 let h1:=(Builtin.bitXor h (h.fdiv (2 ^ 15))*2246822519).fmod (2 ^ 32)
 let h2:=(Builtin.bitXor h1 (h1.fdiv (2 ^ 13))*3266489917).fmod (2 ^ 32)
 Builtin.bitXor h2 (h2.fdiv (2 ^ 16))
noncomputable def jQ (name:List Nat) (salt:Int):Int:=vN (name.foldl fK (k8 salt))
end
section
variable {X:Cx}{P:bj}{n:Nat}{sc:QM}{ρ af ay:Rw}{b ao b₂:Array UInt8}
theorem ey.fold {σ:Type}{t:QR}{body:List Rr}(I:σ→Rw→Array UInt8→Prop) (step:σ→D→σ):∀ (ds:List D),(∀ d∈ds,∀ s ρ b,I s ρ b→∃ ρ' af ao,pA sc false t d ρ ρ'∧SS X n sc body ρ' b (.next af ao)∧I (step s d) af ao) →
  ∀ s ρ b,I s ρ b→∃ ρ' b',ey X n sc t body ds ρ b (.next ρ' b')∧I (ds.foldl step s) ρ' b':=fun ds=>by
 induction ds with
 | nil =>
  exact fun _ s ρ b hI=>⟨ρ,b,.nil,hI⟩
 | cons d ds bA =>
  intro h s ρ b hI
  obtain ⟨ρ',af,ao,h1,h2,h3⟩:=h d QB s ρ b hI
  obtain ⟨ay,b₂,h4,h5⟩:=bA (fun d hd=>h d (QD _ hd)) _ af ao h3
  exact ⟨ay,b₂,.next h1 h2 h4,h5⟩
theorem mulR {i j:Int}(h:-(2 ^ 64)<j) (h2:j<2 ^ 64):IntMulOk i j:=.of_right (PySem.intBits_le_64 h h2)
theorem SE.jC (L:cP X P) (k:Nat) {x:Qy}{i:Int}{pos:Rd}(hx:oh[k]?=some (x,i)) (hk:autoParam (sc.names.lookup x=some .globalImplicit) bG) (hn:autoParam (okN x=true) bG):SE X n sc (.Name x pos) ρ b (.int i) ρ b:=by
 obtain ⟨t,ht⟩:=L.gi k _ hx
 exact SE.Iw ht hk hn
noncomputable def bD (f:Rr) (k:Nat):Rr:=(bodyOf f).getD k (.Pass default)
noncomputable def dq:Rr→QR
 | .For t _ _ _ _=>t
 | _=>.Name "" default
noncomputable def aX:Rr→List Rr
 | .For _ _ body _ _=>body
 | _=>[]
noncomputable def sgn (c:Nat):D:=.str ⟨#[c]⟩
noncomputable def DI:D→Nat
 | .str s=>s.cps.getD 0 0
 | _=>0
theorem fh (L:cP X P) {name:Qy}{salt:Int}:cb X (n+1) 226 [.str name,.int salt] b (.ok (.int (jQ name.cps.toList salt)) b):=by
 obtain ⟨fd,hF⟩:=L.fn 15 _ rfl
 obtain ⟨ρ',b',hT,hI,rfl⟩:=ey.fold (X:=X) (n:=n) (sc:=aw (top 33)) (t:=dq (bD (top 33) 1)) (body:=aX (bD (top 33) 1)) (fun (h:Int) ρ b'=>lk ρ ("found":Qy)=some (.val (.int h))∧b'=b) (fun h d=>fK h (DI d)) (name.cps.toList.map sgn) (fun d hd s ρ b' hI=>by
  obtain ⟨c,_,rfl⟩:=dj hd
  obtain ⟨hI,rfl⟩:=hI
  refine ⟨_,_,_,.name av (by intro h;cases h),aG (cj (cK (dH (SE.xor (ai (aR ‹_›)) (SE.ord (c:=c) (ai (aR rfl)))) aC (mulR av av)) (SE.pow aC (SE.jC L 11 rfl) av av av) av)) bX,?_,rfl⟩
  exact (aR rfl)) (k8 salt) (aS [("name",.val (.str name)),("salt",.val (.int salt))] "found" (.val (.int (k8 salt)))) b ⟨rm,rfl⟩
 have e:(name.cps.toList.map sgn).foldl (fun h d=>fK h (DI d)) (k8 salt)=name.cps.toList.foldl fK (k8 salt):=by rw [List.foldl_map];rfl
 rw [e] at hI
 exact bV hF rfl av (aG (cj (SE.xor (ai rfl) aC)) (aG (S1.For (IT.str (ai rfl)) hT)
  (aG (cj (cK (dH (SE.xor (ai hI) (SE.shr (ai hI) aC av)) aC (mulR av av)) (SE.pow aC (SE.jC L 11 rfl) av av av) av))
  (aG (cj (cK (dH (SE.xor (ai (aR rfl)) (SE.shr (ai (aR rfl)) aC av)) aC (mulR av av)) (SE.pow aC (SE.jC L 11 rfl) av av av) av))
  (bF (bN (SE.xor (ai (aR rfl)) (SE.shr (ai (aR rfl)) aC av))))))))
end
section
variable {X:Cx}{P:bj}{n:Nat}{b:Array UInt8}
theorem qU (L:cP X P) {told bits:Int}(h:bits≤32):cb X (n+1) 233 [.int told,.int bits] b (.ok (.int (told.fdiv (2 ^ (32-bits).toNat))) b):=by
 obtain ⟨fd,hF⟩:=L.fn 16 _ rfl
 exact bV hF rfl av (bF (bN (SE.shr (ai rfl) (SE.sub (SE.jC L 11 rfl) (ai rfl)) ((wb (ag (bM bc (aJ 32)) (bM (aJ 0) (fy (aJ 32) bc)))) h))))
theorem mh (L:cP X P) {x:Array UInt8}(hz:x.size≤1000000) (h0:0<x.size) (h:(x.toList.getD 0 0).toNat=3):cb X (n+1) 198 [.bytes x] b (.ok .none b):=by
 obtain ⟨fd,hF⟩:=L.fn 11 _ rfl
 have e:(((x.toList.getD (0:Int).toNat 0).toNat:Int) != 3)=false:=by
  rw [show (0:Int).toNat=0 from rfl,h];rfl
 exact cb.Kg hF rfl av (aG (S1.kI (cg (SE.r8 (ai rfl) aC (yO hz h0) av (yN hz h0)) (SE.jC L 2 rfl) (e▸aQ.Fn)) bX) bX)
end
theorem rD {α:Type}(l:List α) (i m:Nat):(l.drop (min i l.length)).take (min (i+m) l.length-min i l.length)=(l.drop i).take m:=by
 by_cases h:i≤l.length
 ·rw [Ts h]
  by_cases h2:i+m≤l.length
  ·rw [Ts h2,Nat.add_sub_cancel_left]
  ·rw [SY (by exact (dC (ag (bI (aq (ak aj az) aa)) (aq aa (ak aj az)))) h2),RX (by rw [Sm];exact @GF _ _),RX (by rw [Sm];exact (Lq 3 0 [b9 aa aj] (ag (aq aj aa) (ag (bI (aq (ak aj az) aa)) (aq a7 az)))) h h2)]
 ·rw [SY (by exact (dC (ag (bI (aq aj aa)) (aq aa (ak aj az)))) h),SY (by exact pP h),Nat.sub_self,List.take_zero,RV (by exact pP h),List.take_nil]
theorem iJ (b:Array UInt8) (i m:Nat):KBy.picked b (some (i:Int)) (some ((i:Int)+(m:Int)))=((b.toList.drop i).take m).toArray:=by
 rw [KBc.picked_eq]
 show ((b.toList.drop (clipAt b.size (i:Int))).take (clipAt b.size ((i:Int)+(m:Int))-clipAt b.size (i:Int))).toArray=_
 rw [show ((i:Int)+(m:Int))=((i+m:Nat):Int) by exact @CL _ _,SQ,SQ]
 have:=rD b.toList i m
 rw [show b.toList.length=b.size from rfl] at this
 rw [this]
theorem lQ (b:Array UInt8) (i:Nat):KBy.picked b none (some (i:Int))=(b.toList.take i).toArray:=by
 rw [KBc.picked_eq]
 show ((b.toList.drop 0).take (clipAt b.size (i:Int)-0)).toArray=_
 rw [SQ,U9,Nat.sub_zero]
 congr 1
 by_cases h:i≤b.size
 ·rw [Ts h]
 ·rw [SY (by exact pP h),RX (i:=b.size) (l:=b.toList) (QV b.size),RX (by show b.size≤i;exact pP h)]
theorem rM (b:Array UInt8) (i:Nat):KBy.picked b (some (i:Int)) none=(b.toList.drop i).toArray:=by
 rw [KBc.picked_eq]
 show ((b.toList.drop (clipAt b.size (i:Int))).take (b.size-clipAt b.size (i:Int))).toArray=_
 rw [SQ,RX (by rw [Sm];exact QV _)]
 by_cases h:i≤b.size
 ·rw [Ts h]
 ·rw [SY (by exact pP h),RV (by exact QV b.toList.length),RV (by show b.size≤i;exact pP h)]
noncomputable def dR (l:List UInt8) (i m:Nat):List UInt8:=(l.drop i).take m++replicate (m-((l.drop i).take m).length) 0
theorem yv (b:Array UInt8) (i m:Nat):yw b (i:Int) (m:Int)=(dR b.toList i m).toArray:=by
 unfold yw dR
 rw [iJ]
 have h:((b.toList.drop i).take m).length≤m:=SG _ _
 have e:((m:Int)-(((b.toList.drop i).take m).toArray.size:Nat)).toNat=m-((b.toList.drop i).take m).length:=by
  rw [QH];exact (Lq 2 0 [gk (fy (aL aa) (aL aj)),b9 aa aj] (ag (aq aj aa) (aH az a7))) h
 rw [e]
 simp
theorem eL (l:List UInt8) (i m:Nat):(dR l i m).length=m:=by
 unfold dR
 have h:((l.drop i).take m).length≤m:=SG _ _
 rw [QA,List.length_replicate];exact (Lq 2 0 [b9 aj aa] (ag (aq aa aj) (aH (ak aa az) aj))) h
section
variable {X:Cx}{P:bj}{n:Nat}{b:Array UInt8}
theorem m6 (L:cP X P) {i m:Nat}(hz:b.size≤1000000) (hm:m≤1000):cb X (n+2) 370 [.ext 0,.int 1,.int (i:Int),.int (m:Int)] b (.ok (.bytes (dR b.toList i m).toArray) b):=by
 rw [← yv]
 exact DL L (@pb _) ((dW (ag (aq aa (ae 1000)) (bM (aJ 0) (aL aa)))) hm) hz (by rw [iJ,QH];have:=SG m (b.toList.drop i);exact (cS (ag (aq aa aj) (bM (aL aa) (aL aj)))) this) ((dW (ag (aq aa (ae 1000)) (bM (aL aa) (aJ 1000)))) hm)
end
noncomputable def fo (l:List UInt8) (k:Nat):UInt8:=l.getD k 0
theorem jx (l r:List UInt8) (k:Nat):fo (l++r) k=if k<l.length then fo l k else fo r (k-l.length):=by
 unfold fo
 rw [Qw,Qw,Qw]
 split
 ·rw [List.getElem?_append_left ‹_›]
 ·rw [List.getElem?_append_right (by exact Ct (by assumption))]
theorem tU (m k:Nat):fo (replicate m 0) k=0:=by
 unfold fo
 rw [Qw,Sp]
 split<;>rfl
theorem pS {l:List UInt8}{k:Nat}(h:l.length≤k):fo l k=0:=by
 unfold fo
 rw [Qw,R6 h];rfl
theorem nR (l:List UInt8) (m k:Nat):fo (l++replicate m 0) k=fo l k:=by
 rw [jx]
 split
 ·rfl
 ·rw [tU,pS (by exact Ct (by assumption))]
theorem kO (l:List UInt8) (i m:Nat):dR l i m=(range m).map fun k=>fo l (i+k):=by
 refine List.ext_getElem? fun k=>?_
 by_cases h:k<m
 ·rw [QU,Tn h]
  unfold dR
  have hl:=eL l i m
  unfold dR at hl
  by_cases h2:k<((l.drop i).take m).length
  ·rw [List.getElem?_append_left h2,List.getElem?_take_of_lt h,List.getElem?_drop]
   rw [SH,Sm] at h2
   rw [QI (by exact CM h hl h2)]
   show some _=some (fo l (i+k))
   unfold fo
   rw [Qw,QI (by exact CM h hl h2)];rfl
  ·rw [List.getElem?_append_right (by exact Ct h2),Sp,if_pos (by rw [QA,List.length_replicate] at hl;exact (Lq 3 0 [b9 aa aj,b9 az aj] (ag (aD aa az) (ag (aH (ak aj cM) az) (ag (bI (aD aa aj)) (aD a7 cM))))) h hl h2)]
   rw [SH,Sm] at h2
   show _=some (fo l (i+k))
   rw [pS (by exact (Lq 5 0 [b9 aa aj,AF a7 gh] (ag (aD az a7) (ag (aH cM a7) (ag (bI (aD az oP)) (aq aa (ak aj az)))))) h hl h2)]
 ·rw [R6 (by rw [eL];exact Ct h),R6 (by rw [Qu,Q6];exact Ct h)]
theorem w4 (l:List UInt8) (i k:Nat):fo (l.take i) k=if k<i then fo l k else 0:=by
 unfold fo
 rw [Qw,Qw,List.getElem?_take]
 split<;>rfl
theorem w5 (l:List UInt8) (i k:Nat):fo (l.drop i) k=fo l (i+k):=by
 unfold fo
 rw [Qw,Qw,List.getElem?_drop]
theorem um (b:Array UInt8) (i:Nat):(iw b (i:Int)).toList=b.toList++replicate (i-b.size) 0:=by
 unfold iw
 have e:(if (i:Int)-(b.size:Int) > 0 then (i:Int)-(b.size:Int) else 0).toNat=i-b.size:=by split<;>(first|exact (Lq 2 0 [gk (fy (aL aa) (aL aj)),b9 aa aj] (ag (cU (aJ 0) (fy (aL aa) (aL aj))) (aH az a7))) (by assumption)|exact (Lq 2 0 [gk (aJ 0),b9 aa aj] (ag (bI (cU (aJ 0) (fy (aL aa) (aL aj)))) (aH az a7))) (by assumption))
 rw [e];simp
theorem me (b:Array UInt8) (i:Nat) (x:Array UInt8):(fi b (i:Int) x).toList=(b.toList++replicate (i-b.size) 0).take i++x.toList++(b.toList++replicate (i-b.size) 0).drop (i+x.size):=by
 unfold fi
 rw [lQ,show ((i:Int)+(x.size:Int))=((i+x.size:Nat):Int) by exact @CL _ _,rM,um]
 simp
theorem wN (x:Array UInt8):(tO x).toList=x.toList++replicate (fZ x.size-x.size).toNat 0:=by unfold tO;simp
noncomputable def wr (b:Array UInt8) (i:Nat) (x:List UInt8):Array UInt8:=tO (fi b (i:Int) x.toArray)
theorem qC (b:Array UInt8) (i:Nat) (x:List UInt8) (k:Nat):fo (wr b i x).toList k=if i≤k∧k<i+x.length then fo x (k-i) else fo b.toList k:=by
 unfold wr
 rw [wN,nR,me,jx,jx,w4,w5,nR,nR]
 have e1:((b.toList++replicate (i-b.size) 0).take i).length=i:=by
  rw [SH,QA,List.length_replicate];show min i (b.size+_)=i;exact @G5 _ _
 have e2:x.toArray.size=x.length:=QH
 rw [QA,e1]
 simp only [e2]
 by_cases h1:k<i
 ·rw [if_pos (by exact (ji (ag (aH a7 az) (ag (aD aa aj) (aD aa (ak aj az))))) e2 h1),if_pos h1,if_pos h1,if_neg (by exact (dC (ag (aD aj aa) (bI (dB (aq aa aj) (aD aj (ak aa az)))))) h1)]
 ·by_cases h2:k<i+x.length
  ·rw [if_pos h2,if_neg h1,if_pos (by exact (dC (ag (bI (aD aj aa)) (ag (aD aj (ak aa az)) (dB (aq aa aj) (aD aj (ak aa az)))))) h1 h2)]
  ·rw [if_neg h2,if_neg (by exact (dC (ag (bI (aD aj (ak aa az))) (bI (dB (aq aa aj) (aD aj (ak aa az)))))) h2),show i+x.length+(k-(i+x.length))=k by exact (Lq 3 0 [b9 az (ak aa aj)] (ag (bI (aD az (ak aa aj))) (aH (ak (ak aa aj) a7) az))) h2]
theorem dz (b:Array UInt8) (i:Nat) (x:List UInt8):(wr b i x).size≤max b.size (i+x.length)+256:=by
 unfold wr
 have h1:(tO (fi b (i:Int) x.toArray)).size=(fi b (i:Int) x.toArray).size+(fZ (fi b (i:Int) x.toArray).size-(fi b (i:Int) x.toArray).size).toNat:=by
  unfold tO;rw [Tb,SA]
 have h2:(fi b (i:Int) x.toArray).size≤max b.size (i+x.length):=by
  show (fi b (i:Int) x.toArray).toList.length≤_
  rw [me]
  simp only [QA,SH,Sm,List.length_replicate,QH]
  show min i (b.size+_)+x.length+(b.size+_-_)≤_
  have key:∀ a c d:Nat,min a (c+(a-c))+d+(c+(a-c)-(a+d))≤max c (a+d):=fun a c d=>@G4 _ _ _
  exact key _ _ _
 have h3:=(qo (k:=(fi b (i:Int) x.toArray).size)).2
 have key:∀ (p m a c d:Nat) (u:Int),p=m+(u-m).toNat→m≤max a (c+d)→u-m≤256→p≤max a (c+d)+256:=fun p m a c d u h1 h2 h3=>(Lq 5 1 [oQ aj (ak az a7),gk (fy bc (aL cM))] (ag (aH aa (ak cM oP)) (ag (aq cM gh) (ag (bM (fy bc (aL cM)) (aJ 256)) (aq aa (ak gh (ae 256))))))) h1 h2 h3
 exact key _ _ _ _ _ _ h1 h2 h3
section
variable {X:Cx}{P:bj}{n:Nat}{b:Array UInt8}
theorem gu (L:cP X P) {i:Nat}{x:List UInt8}(hb:b.size≤100000) (h1:i≤100000) (hx:0<x.length) (As:x.length≤1000):cb X (n+3) 406 [.ext 0,.int 1,.int (i:Int),.bytes x.toArray] b (.ok .none (wr b i x)) :=
 AI L hb ((dW (ag (aq aa (ae 100000)) (bM (aJ 0) (aL aa)))) h1) ((dW (ag (aq aa (ae 100000)) (bM (aL aa) (aJ 100000)))) h1) (by rw [QH];exact hx) (by rw [QH];exact As)
theorem pg (L:cP X P) (hz:b.size≤1000000):cb X (n+3) 240 [.ext 0,.int 1] b (.ok (.bytes (dR b.toList 0 256).toArray) b):=by
 obtain ⟨fd,hF⟩:=L.fn 17 _ rfl
 exact bV hF rfl av (bF (bN (SE.fU L.V L.Y (ai rfl) (au (ai rfl) (au aC (au (SE.uK L.V L.Y (SE.fU L.V L.Y (ai rfl) (au (ai rfl) aF) (.head _) (nh L))) aF))) (.tail _ (.head _)) (m6 (i:=0) (m:=256) L hz av))))
theorem uJ (L:cP X P) {k m:Nat}(hz:b.size≤1000000) (hm:m≤1000):cb X (n+3) 247 [.ext 0,.int 1,.int (k:Int),.int (m:Int)] b (.ok (.bytes (dR b.toList (k*m) m).toArray) b):=by
 obtain ⟨fd,hF⟩:=L.fn 18 _ rfl
 have e:((k:Int)*(m:Int))=((k*m:Nat):Int):=by simp
 exact bV hF rfl av (bF (bN (SE.fU L.V L.Y (ai rfl) (au (ai rfl) (au (e▸dH (ai rfl) (ai rfl) (mulR (vt hm) (vr hm))) (au (ai rfl) aF))) (.tail _ (.head _)) (m6 L hz hm))))
end
section
variable {X:Cx}{P:bj}{n:Nat}{sc:QM}{ρ af ay:Rw}{b ao b₂:Array UInt8}
theorem S1.lj {x:Qy}{pos' pos:Rd}{value:QR}{en:En}(h:SF X n sc value ρ b en af ao) (hx:autoParam (stN sc x=true) bG) (hs:autoParam (∀ env,swapsWith value (some (.Name x pos')) pos.line env=pure false) cw) :
  S1 X n sc (.Assign [.Name x pos'] value pos) ρ b (.next (aS af x en) ao):=fun A f g o s Q E R aY I F k =>
 Un (h A f g o s _ E R aY F fun v g' o' s' os F' S' ho r=>FR.lM (os:=os) (e:=en) F' aY (I.EV hx) (fun a h=>.inl (ho a h).1) r fun gF rl dG th xB _=>k gF rl dG th (S'.toStep.trans xB)) (hs _)
theorem uE (L:cP X P) {x t:Array UInt8}{at_ k Mz tl nm:Int}(hz:x.size≤10000) (h1:at_+7≤x.size) (hl:dD (b6 x at_ 2).toList=Mz) (ht:dD (b6 x (at_+2) 4).toList=tl) (hk:dD (b6 x (at_+2+4) 1).toList=k)
  (hm:at_+2+4+1+k+8≤x.size) (hx:b6 x (at_+2+4+1) k=t) (hc:∀ c∈t.toList,32≤c.toNat∧c.toNat<127) (hn:dD (b6 x (at_+2+4+1+k) 8).toList=nm) :
  cb X (n+6) 205 [.bytes x,.int at_] b (.ok (.tup [.int Mz,.int tl,.str (nB t.toList),.int nm]) b):=by
 obtain ⟨fd,hF⟩:=L.fn 12 _ rfl
 subst hl ht hn
 have z:∀ i j,(b6 x i j).size≤10000:=fun i j=>Qx (KBc.size_picked_le _ _ _) hz
 exact bV hF rfl av (aG (S1.lj (SF.make (c:=0) (L.gf 2 _ rfl) (au (ai rfl) (au (ai rfl) aF)) (l0 L)))
  (aG (cj (SE.iV rfl (SE.jC L 9 rfl) rfl (.tail _ (.tail _ (.head _))) (cC L (Qx hz av) ((xC (ag (bM (cn bc (aJ 7)) (aL aa)) (bM (aJ 2) (fy (aL aa) bc)))) h1) (z _ _))))
  (aG (cj (SE.iV rfl aC rfl (.tail _ (.tail _ (.head _))) (cC L (Qx hz av) ((xC (ag (bM (cn bc (aJ 7)) (aL aa)) (bM (aJ 4) (fy (aL aa) (cn bc (aJ 2)))))) h1) (z _ _))))
  (aG (cj (SE.zc rfl (.tail _ (.tail _ (.tail _ (.head _)))) (qd L hz ((xC (ag (bM (cn bc (aJ 7)) (aL aa)) (bM (aJ 1) (fy (aL aa) (cn (cn bc (aJ 2)) (aJ 4)))))) h1) hk ((Lq 1 2 [] (ag (bM (cn (cn (cn (cn (cn mW (aJ 2)) (aJ 4)) (aJ 1)) bc) (aJ 8)) (aL aa)) (bM bc (fy (aL aa) (cn (cn (cn mW (aJ 2)) (aJ 4)) (aJ 1)))))) hm) hx hc)))
  (bF (bN (SE.tup (au (ai rfl) (au (ai rfl) (au (ai rfl) (au (SE.iV rfl (SE.jC L 6 rfl) rfl (.tail _ (.tail _ (.head _))) (cC L (Qx hz av) ((Lq 1 2 [] (ag (bM (cn (cn (cn (cn (cn bc (aJ 2)) (aJ 4)) (aJ 1)) mW) (aJ 8)) (aL aa)) (bM (aJ 8) (fy (aL aa) (cn (cn (cn (cn bc (aJ 2)) (aJ 4)) (aJ 1)) mW))))) hm) (z _ _))) aF)))))))))))
end
section
variable {X:Cx}{P:bj}{n:Nat}{sc:QM}{ρ af ay:Rw}{b ao b₂:Array UInt8}
noncomputable def zP (a1 a2 a3 a4 a5:Int):List D:=[.int a1,.int a2,.int a3,.int a4,.int a5]
theorem zO (L:cP X P) {a1 a2 a3 a4 a5:Int}:gJ X (n+1) 163 1 [] (zP a1 a2 a3 a4 a5) b .none (zP a1 a2 a3 a4 a5) b:=by
 obtain ⟨fd,hF⟩:=L.fn 8 _ rfl
 exact gJ.intro (names:=["bits","salt","many","behind","table"]) hF rfl av av (aG (iS (k:=0) (ai rfl) rfl rfl (show 0≤0 by decide)) (aG (iS (k:=1) (ai rfl) rfl rfl (show 1≤1 by decide))
  (aG (iS (k:=2) (ai rfl) rfl rfl (show 2≤2 by decide)) (aG (iS (k:=3) (ai rfl) rfl rfl (show 3≤3 by decide)) (aG (iS (k:=4) (ai rfl) rfl rfl (show 4≤4 by decide)) bX))))) (.next rfl)
theorem uA (L:cP X P) {x:Array UInt8}(hz:x.size≤10000) (h1:18≤x.size):cb X (n+6) 184 [.bytes x] b (.ok (.inst 1 (zP (dD (b6 x 1 1).toList) (dD (b6 x (1+1) 4).toList) (dD (b6 x (1+1+4) 4).toList) (dD (b6 x (1+1+4+4) 4).toList) (dD (b6 x (1+1+4+4+4) 4).toList))) b):=by
 obtain ⟨fd,hF⟩:=L.fn 9 _ rfl
 have z:∀ i j,(b6 x i j).size≤10000:=fun i j=>Qx (KBc.size_picked_le _ _ _) hz
 exact bV hF rfl av (aG (S1.lj (SF.make (c:=0) (L.gf 2 _ rfl) (au (ai rfl) (au aC aF)) (l0 L)))
  (aG (cj (SE.iV rfl aC rfl (.tail _ (.tail _ (.head _))) (cC L (yL hz h1) ((dW (ag (aq aa (ae 10000)) (ag (aq (ae 18) aa) (bM (aJ 1) (fy (aL aa) (aJ 1)))))) hz h1) (z _ _))))
  (aG (cj (SE.iV rfl aC rfl (.tail _ (.tail _ (.head _))) (cC L (yL hz h1) ((dW (ag (aq aa (ae 10000)) (ag (aq (ae 18) aa) (bM (aJ 4) (fy (aL aa) (cn (aJ 1) (aJ 1))))))) hz h1) (z _ _))))
  (aG (cj (SE.iV rfl aC rfl (.tail _ (.tail _ (.head _))) (cC L (yL hz h1) ((dW (ag (aq aa (ae 10000)) (ag (aq (ae 18) aa) (bM (aJ 4) (fy (aL aa) (cn (cn (aJ 1) (aJ 1)) (aJ 4))))))) hz h1) (z _ _))))
  (aG (cj (SE.iV rfl (SE.jC L 7 rfl) rfl (.tail _ (.tail _ (.head _))) (cC L (yL hz h1) ((dW (ag (aq aa (ae 10000)) (ag (aq (ae 18) aa) (bM (aJ 4) (fy (aL aa) (cn (cn (cn (aJ 1) (aJ 1)) (aJ 4)) (aJ 4))))))) hz h1) (z _ _))))
  (bF (bN (SE.p0 (SF.make (c:=1) (L.gf 4 _ rfl) (au (ai rfl) (au (ai rfl) (au (ai rfl) (au (ai rfl) (au (SE.iV rfl (SE.jC L 7 rfl) rfl (.tail _ (.tail _ (.head _))) (cC L (yL hz h1) ((dW (ag (aq aa (ae 10000)) (ag (aq (ae 18) aa) (bM (aJ 4) (fy (aL aa) (cn (cn (cn (cn (aJ 1) (aJ 1)) (aJ 4)) (aJ 4)) (aJ 4))))))) hz h1) (z _ _))) aF))))) (zO L))))))))))
end
section
variable {X:Cx}{P:bj}{n:Nat}{sc:QM}{ρ af ay:Rw}{b ao b₂:Array UInt8}
theorem oZ (L:cP X P) {a1 a2 a3 a4:Int}{tb i m:Nat}(hz:b.size≤1000000) (hi:i≤1000) (hm:m≤1000) :
  cb X (n+3) 254 [.ext 0,.int 1,.inst 1 (zP a1 a2 a3 a4 (tb:Int)),.int (i:Int),.int (m:Int)] b (.ok (.int (dD (dR b.toList (tb*m+4*i) 4))) b):=by
 obtain ⟨fd,hF⟩:=L.fn 19 _ rfl
 obtain ⟨EK,hN⟩:=L.fn 0 _ rfl
 have e:((tb:Int)*(m:Int)+4*(i:Int))=((tb*m+4*i:Nat):Int):=by simp
 exact bV hF rfl av (bF (bN (bp (L.gf 0 _ rfl) hN (au (SE.fU L.V L.Y (ai rfl) (au (ai rfl) (au (e▸cZ (dH (SE.qi (k:=4) (ai rfl) rfl rfl) (ai rfl) (mulR (vt hm) (vr hm))) (dH (SE.jC L 7 rfl) (ai rfl) (mulR (vt hi) (vr hi)))) (au (SE.jC L 7 rfl) aF))) (.tail _ (.head _)) (m6 (m:=4) L hz av)) aF) (eu L (bs:=(dR b.toList (tb*m+4*i) 4).toArray) (by rw [QH,eL];decide)))))
end
section
variable {X:Cx}{P:bj}{n:Nat}{sc:QM}{ρ af ay:Rw}{b ao b₂:Array UInt8}
theorem tE (L:cP X P) {a2 a3 a4:Int}{bits tb m:Nat}(hz:b.size≤1000000) (hb:bits≤3) (hm:m≤1000) :
  cb X (n+3) 259 [.ext 0,.int 1,.inst 1 (zP (bits:Int) a2 a3 a4 (tb:Int)),.int (m:Int)] b (.ok (.list ((range (2 ^ bits)).map fun i=>.int (dD (((dR b.toList (tb*m) (4*2 ^ bits)).drop (4*i)).take 4)))) b):=by
 obtain ⟨fd,hF⟩:=L.fn 20 _ rfl
 obtain ⟨EK,hN⟩:=L.fn 0 _ rfl
 have e:((tb:Int)*(m:Int))=((tb*m:Nat):Int):=by simp
 have hp:2 ^ bits≤8:=by
  have:(2:Nat) ^ bits≤2 ^ 3:=Q3 av hb
  exact this
 have ep:((2:Int) ^ ((bits:Int)).toNat)=((2 ^ bits:Nat):Int):=by simp
 have e4:(4:Int)*(2:Int) ^ ((bits:Int)).toNat=((4*2 ^ bits:Nat):Int):=by rw [ep];simp
 have hlen:((range ((2 ^ bits:Nat):Int).toNat).map fun (i:Nat)=>D.int (i:Int)).length≤100000:=by
  rw [Qu,Q6];exact (Lq 1 1 [gk (aL aa)] (ag (aq aa (ae 8)) (ag (cu bc (aL aa)) (aq aj (ae 100000))))) hp ep
 generalize hR:dR b.toList (tb*m) (4*2 ^ bits)=r
 have hr:r.length=4*2 ^ bits:=by rw [← hR];exact eL _ _ _
 have eo:((range (2 ^ bits)).map fun i=>D.int (dD ((r.drop (4*i)).take 4)))=(((range ((2 ^ bits:Nat):Int).toNat).map fun (i:Nat)=>D.int (i:Int)).map fun d=>.int (dD ((r.drop (4*(jX d).toNat)).take 4))):=by
  rw [Rk];rfl
 rw [eo]
 exact bV hF rfl av (aG (cj (SE.fU L.V L.Y (ai rfl) (au (ai rfl) (au (e▸dH (SE.qi (k:=4) (ai rfl) rfl rfl) (ai rfl) (mulR (vt hm) (vr hm))) (au (e4▸dH (SE.jC L 7 rfl) (SE.pow aC (SE.qi (k:=0) (ai rfl) rfl rfl) (yW hb) (yV hb) av) (.of_left (PySem.intBits_le_64 av av))) aF))) (.tail _ (.head _)) (hR▸m6 (m:=4*2 ^ bits) L hz ((xC (ag (aq aa (ae 8)) (ag (cu bc (aL aa)) (aq (dO 4 aa) (ae 1000))))) hp ep))))
  (bF (bN (i7 (own:=false) (fW:=["octets"]) (mH (ep▸SE.pow aC (SE.qi (k:=0) (ai rfl) rfl rfl) (yW hb) (yV hb) av) ((xC (ag (aq aa (ae 8)) (ag (cu bc (aL aa)) (bM (xN (aJ (2 ^ 62))) (aL aa))))) hp ep) ((xC (ag (aq aa (ae 8)) (ag (cu bc (aL aa)) (cU (aL aa) (aJ (2 ^ 62)))))) hp ep)) av (.cons rfl .nil) (.cons rfl .nil) (bQ.all (fun ρ=>lk ρ ("octets":Qy)=some (.val (.bytes r.toArray))) _ _ (fun d hd ρ hI=>by
   obtain ⟨i,hi,rfl⟩:=dj hd
   have q1:((4:Int)*((i:Int)+1))=(((4*i:Nat):Int)+((4:Nat):Int)):=by exact @Gv _
   have q2:((4:Int)*(i:Int))=((4*i:Nat):Int):=by exact @Gu _
   have Oq:KBy.picked r.toArray (some ((4:Int)*(i:Int))) (some ((4:Int)*((i:Int)+1)))=((r.drop (4*i)).take 4).toArray:=by rw [q1,q2,iJ]
   have pf:=R8.mp hi
   exact ⟨_,.name av av,(aR ‹_›),bp (L.gf 0 _ rfl) hN (au (Oq▸SE.o7 (bs:=r.toArray) (ai (aR ‹_›)) (.some (dH (SE.jC L 7 rfl) (ai (aR rfl)) (.of_left (PySem.intBits_le_64 av av)))) (.some (dH (SE.jC L 7 rfl) (cZ (ai (aR rfl)) aC) (.of_left (PySem.intBits_le_64 av av)))) (by rw [QH];exact (Lq 2 1 [] (ag (aq aj (ae 8)) (ag (cu bc (aL aj)) (ag (aH aa (dO 4 aj)) (aq aa (ae 1000000)))))) hp ep hr)) aF) (eu L (bs:=((r.drop (4*i)).take 4).toArray) (by rw [QH];have:=SG 4 (r.drop (4*i));exact Qx this av))⟩) _ rfl) hlen))))
end
section
variable {X:Cx}{P:bj}{n:Nat}{sc:QM}{ρ af ay:Rw}{b ao b₂:Array UInt8}
theorem vv (k:Nat):(!([QG.int 1,QG.int 2].any fun y=>QG.eqv y (.int (k:Int))))=decide (k≠1∧k≠2):=by
 have h1:QG.eqv (.int 1) (.int (k:Int))=decide ((1:Int)=k):=by simp only [QG.eqv];exact Bool.eq_iff_iff.mpr (by simp)
 have h2:QG.eqv (.int 2) (.int (k:Int))=decide ((2:Int)=k):=by simp only [QG.eqv];exact Bool.eq_iff_iff.mpr (by simp)
 simp only [UO,List.any_nil,h1,h2]
 by_cases a:k=1
 ·subst a;rfl
 ·by_cases c:k=2
  ·subst c;rfl
  ·have:¬ ((1:Int)=k):=by exact (dW (ag (bI (aH aa (ae 1))) (ag (bI (aH aa (ae 2))) (bI (cu (aJ 1) (aL aa)))))) a c
   have:¬ ((2:Int)=k):=by exact (dW (ag (bI (aH aa (ae 2))) (ag (bI (cu (aJ 1) (aL aa))) (bI (cu (aJ 2) (aL aa)))))) c this
   simp [*]
theorem wB (L:cP X P) {x:Array UInt8}{k:Nat}(hz:x.size≤1000000) (h0:0<x.size) (hk:(x.toList.getD 0 0).toNat=k) (h:k=1∨k=2):cb X (n+1) 191 [.bytes x] b (.ok (.int (k:Int)) b):=by
 obtain ⟨fd,hF⟩:=L.fn 10 _ rfl
 have e:decide (k≠1∧k≠2)=false:=by simp;exact (cS (ag (aH aj aa) (ag (j6 (aH aa (ae 1)) (aH aa (ae 2))) (ag (bI (aH aa (ae 1))) (aH aa (ae 2)))))) hk h
 subst hk
 exact bV hF rfl av (aG (S1.kI (cg (SE.r8 (ai rfl) aC (yO hz h0) av (yN hz h0)) (SE.tup (au (SE.jC L 0 rfl) (au (SE.jC L 1 rfl) aF))) ((vv _).trans e▸aQ.yX (.int _) [.int 1,.int 2] rfl rfl (by rfl) (by rfl))) bX)
  (bF (bN (SE.r8 (ai rfl) aC (yO hz h0) av (yN hz h0)))))
end
section
variable {X:Cx}{P:bj}{n:Nat}{sc:QM}{ρ af ay:Rw}{b ao b₂:Array UInt8}
theorem S1.corrupt (L:cP X P) {np zZ pos:Rd}{e:QR}{w:Qy}(he:SE X (n+3) sc e ρ b (.str w) af ao) (hc:autoParam (sc.names.lookup ("Corrupt":Qy)=some .globalImplicit) bG) (cv:autoParam (∀ env,QS [e] env=[(false,eval e env)]) cw) :
  S1 X (n+3) sc (.Raise (some (.Call (.Name "Corrupt" np) [e] [] zZ)) none pos) ρ b (.exc ao):=by
 obtain ⟨fd,hF⟩:=L.fn 41 _ rfl
 exact S1.raise (sc':=aw (bO (top 2) 0)) L.FI hF av av av av he hc cv
theorem pG (L:cP X P) {x:Array UInt8}{k:Nat}(hz:x.size≤1000000) (h0:0<x.size) (hk:(x.toList.getD 0 0).toNat=k) (h:k≠1∧k≠2):cb X (n+4) 191 [.bytes x] b (.exc b):=by
 obtain ⟨fd,hF⟩:=L.fn 10 _ rfl
 have e:decide (k≠1∧k≠2)=true:=by simpa using h
 subst hk
 exact cb.exc hF rfl av (SS.exc (S1.qK (cg (SE.r8 (ai rfl) aC (yO hz h0) av (yN hz h0)) (SE.tup (au (SE.jC L 0 rfl) (au (SE.jC L 1 rfl) aF))) ((vv _).trans e▸aQ.yX (.int _) [.int 1,.int 2] rfl rfl (by rfl) (by rfl))) (SS.exc (S1.corrupt L SE.str))))
theorem mf (L:cP X P) {x:Array UInt8}(hz:x.size≤1000000) (h0:0<x.size) (h:(x.toList.getD 0 0).toNat≠3):cb X (n+4) 198 [.bytes x] b (.exc b):=by
 obtain ⟨fd,hF⟩:=L.fn 11 _ rfl
 have e:(((x.toList.getD (0:Int).toNat 0).toNat:Int) != 3)=true:=by
  exact bne_iff_ne.mpr (by show ((x.toList.getD 0 0).toNat:Int)≠3;exact (dW (ag (bI (aH aa (ae 3))) (bI (cu (aL aa) (aJ 3))))) h)
 exact cb.exc hF rfl av (SS.exc (S1.qK (cg (SE.r8 (ai rfl) aC (yO hz h0) av (yN hz h0)) (SE.jC L 2 rfl) (e▸aQ.Fn)) (SS.exc (S1.corrupt L SE.str))))
end
noncomputable def aZ:Nat→Nat→List Nat
 | _,0=>[]
 | n,k+1=>n % 256::aZ (n / 256) k
noncomputable def bY (l:List Nat):List UInt8:=l.map UInt8.ofNat
theorem aK (l:List Nat):(bY l).length=l.length:=Qu ..
theorem ax:∀ (k n:Nat),(aZ n k).length=k:=fun k=>by
 induction k with
 | zero =>
  exact fun _=>rfl
 | succ k bA =>
  exact fun n=>by rw [aZ,QC,bA]
theorem dg:∀ (k n:Nat),∀ c∈aZ n k,c<256:=fun k=>by
 induction k with
 | zero =>
  exact fun _ c h=>by cases h
 | succ k bA =>
  intro n c h
  rcases bS h with rfl|h
  ·exact UB _ av
  ·exact bA _ c h
theorem nQ:∀ (k n:Nat),n<256 ^ k→dD (bY (aZ n k))=(n:Int):=fun k=>by
 induction k with
 | zero =>
  intro n h
  have:n=0:=by simpa using h
  subst this;rfl
 | succ k bA =>
  intro n h
  show (((UInt8.ofNat (n % 256)).toNat:Nat):Int)+256*dD (bY (aZ (n / 256) k))=_
  rw [bA (n / 256) (by rw [Nat.div_lt_iff_lt_mul av];rw [T5] at h;exact h)]
  have:(UInt8.ofNat (n % 256)).toNat=n % 256:=by
   rw [UInt8.toNat_ofNat'];exact Nat.mod_mod n 256
  rw [this];exact @Ke _
noncomputable def bR (nm:List Nat):Qy:=⟨nm.toArray⟩
theorem eJ {c:Nat}(h:c<256):(UInt8.ofNat c).toNat=c:=by rw [UInt8.toNat_ofNat'];exact Nat.mod_eq_of_lt h
theorem xk:∀ (l:List UInt8) (acc:Array Nat),((l.map pq).foldl (fun acc (p:Qy)=>acc++("":Qy).cps++p.cps) acc).toList=acc.toList++l.map (·.toNat):=fun l=>by
 induction l with
 | nil =>
  exact fun acc=>by simp
 | cons c r bA =>
  intro acc
  rw [QT,RY,bA]
  have h0:("":Qy).cps=#[]:=rfl
  rw [h0]
  simp [pq]
theorem yc (l:List UInt8):nB l=⟨(l.map (·.toNat)).toArray⟩:=by
 cases l with
 | nil=>rfl
 | cons c r =>
  show (⟨(r.map pq).foldl (fun acc (p:Qy)=>acc++("":Qy).cps++p.cps) (pq c).cps⟩:Qy)=_
  congr 1
  apply Uk.mp
  rw [xk]
  simp [pq]
theorem rC {nm:List Nat}(h:∀ c∈nm,c<256):nB (bY nm)=bR nm:=by
 rw [yc]
 unfold bY bR
 rw [Rk]
 congr 2
 calc nm.map ((·.toNat) ∘ UInt8.ofNat)=nm.map id:=SD fun c hc=>eJ (h c hc)
  _=nm:=List.map_id nm
noncomputable def fu (lk tl:Nat) (nm:List Nat) (num:Nat):List Nat:=aZ lk 2++aZ tl 4++[nm.length]++nm++aZ num 8
noncomputable def oO (nm:List Nat):Prop:=nm.length≤100∧∀ c∈nm,32≤c∧c<127
structure FN (lk tl:Nat) (nm:List Nat) (num:Nat):Prop where
 lk:lk<65536
 tl:tl<4294967296
 nm:oO nm
 num:num<18446744073709551616
theorem wx (x:List UInt8) (i m:Nat):b6 x.toArray (i:Int) (m:Int)=((x.drop i).take m).toArray:=iJ x.toArray i m
noncomputable def jO (x:List UInt8) (i:Nat) (l:List Nat):Prop:=∃ r,x.drop i=bY l++r
theorem jO.left {x:List UInt8}{i:Nat}{l m:List Nat}(h:jO x i (l++m)):jO x i l:=by
 obtain ⟨r,h⟩:=h
 exact ⟨bY m++r,by rw [h];unfold bY;rw [Rc,Q9]⟩
theorem jO.right {x:List UInt8}{i:Nat}{l m:List Nat}(h:jO x i (l++m)):jO x (i+l.length) m:=by
 obtain ⟨r,h⟩:=h
 refine ⟨r,?_⟩
 rw [← List.drop_drop,h]
 unfold bY
 rw [Rc,Q9,List.drop_left' (by rw [Qu])]
theorem jO.take {x:List UInt8}{i:Nat}{l:List Nat}(h:jO x i l):((x.drop i).take l.length)=bY l:=by
 obtain ⟨r,h⟩:=h
 rw [h,List.take_left' (aK l)]
theorem jO.len {x:List UInt8}{i:Nat}{l:List Nat}(h:jO x i l) (h0:0<l.length):i+l.length≤x.length:=by
 obtain ⟨r,h⟩:=h
 have:=congrArg List.length h
 rw [Sm,QA,aK] at this
 exact (Lq 4 0 [b9 az aa] (ag (aD (ae 0) aj) (ag (aH cM (ak aj a7)) (aq (ak aa aj) az)))) h0 this
theorem jO.b6 {x:List UInt8}{i:Nat}{l:List Nat}(h:jO x i l) {m:Nat}(hm:l.length=m) {j:Int}(hj:j=(i:Int)):(Mine.Internal.b6 x.toArray j (m:Int)).toList=bY l:=by
 subst hj hm
 rw [wx,h.take]
theorem jO.num {x:List UInt8}{i k n:Nat}(h:jO x i (aZ n k)) (hn:n<256 ^ k) {j:Int}(hj:j=(i:Int)):dD (Mine.Internal.b6 x.toArray j (k:Int)).toList=(n:Int):=by
 rw [h.b6 (ax k n) hj,nQ k n hn]
section
variable {X:Cx}{P:bj}{n:Nat}{b:Array UInt8}
theorem qy {k:Nat}(h:k<256):aZ k 1=[k]:=by
 show [k % 256]=[k]
 rw [Nat.mod_eq_of_lt h]
theorem la (L:cP X P) {x:List UInt8}{i lk tl num:Nat}{nm:List Nat}(hz:x.length≤10000) (h:jO x i (fu lk tl nm num)) (ok:FN lk tl nm num) :
  cb X (n+6) 205 [.bytes x.toArray,.int (i:Int)] b (.ok (.tup [.int (lk:Int),.int (tl:Int),.str (bR nm),.int (num:Int)]) b):=by
 have hl:=h.len (by unfold fu;simp only [QA,ax];exact @Kd _ _)
 have e1:(fu lk tl nm num).length=15+nm.length:=by
  unfold fu
  simp only [QA,ax,QC,QP];exact @Hb _
 have hs:x.toArray.size=x.length:=QH
 unfold fu at h
 have a1:=h.left.left.left.left
 have a2:=h.left.left.left.right
 have a3:=h.left.left.right
 have a4:=h.left.right
 have a5:=h.right
 simp only [QA,ax,QC,QP] at a1 a2 a3 a4 a5
 have sg:=ok.nm.1
 rw [← qy (show nm.length<256 by exact Q8 sg av)] at a3
 have ht:=a4.b6 (m:=nm.length) rfl (j:=(i:Int)+2+4+1) (@Kc _)
 have e2:nB (b6 x.toArray ((i:Int)+2+4+1) (nm.length:Int)).toList=bR nm:=by
  rw [ht,rC fun c hc=>by have:=(ok.nm.2 c hc).2;exact RF this av]
 rw [← e2]
 refine uE L (k:=(nm.length:Int)) (by rw [hs];exact hz) (by rw [hs];exact (xD (ag (aq (ak aa az) aj) (ag (aH az (ak (ae 15) a7)) (ag (aH cM aj) (ag (aq a7 (ae 100)) (bM (cn (aL aa) (aJ 7)) (aL aj))))))) hl e1 hs sg) (a1.num (k:=2) ok.lk rfl) (a2.num (k:=4) ok.tl (@Kb _)) (a3.num (k:=1) ((dW (ag (aq aa (ae 100)) (aD aa (ae (256 ^ 1))))) sg) (@Ka _)) (by rw [hs];exact (xD (ag (aq (ak aa a7) az) (ag (aH a7 (ak (ae 15) aj)) (ag (aH cM az) (bM (cn (cn (cn (cn (cn (aL aa) (aJ 2)) (aJ 4)) (aJ 1)) (aL aj)) (aJ 8)) (aL az)))))) hl e1 hs) rfl (fun c hc=>?_) (a5.num (k:=8) ok.num (@J9 _ _))
 rw [ht] at hc
 unfold bY at hc
 obtain ⟨d,hd,rfl⟩:=dj hc
 have:=ok.nm.2 d hd
 rw [eJ (by exact A4 this)]
 exact this
end
set_option genCtorIdx false in
inductive jV where
 | num (k:Nat)
 | none
 | exc
@[reducible] noncomputable def jV.ctorIdx (d:jV):Nat:=jV.casesOn d (fun _=>0) 1 2
noncomputable def jV.rs (b:Array UInt8):jV→Rs
 | .num k=>.ok (.int (k:Int)) b
 | .none=>.ok .none b
 | .exc=>.exc b
inductive pC (x:List UInt8) (nm:List Nat) (told:Nat):Nat→jV→Prop
 | zero:pC x nm told 0 .none
 | hit {a lk num:Nat}:a≠0→jO x a (fu lk told nm num)→FN lk told nm num→pC x nm told a (.num num)
 | miss {a lk tl num:Nat}{tS:List Nat}{r:jV}:a≠0→jO x a (fu lk tl tS num)→FN lk tl tS num→¬ (tl=told∧tS=nm)→lk<a→pC x nm told lk r→pC x nm told a r
 | loop {a lk tl num:Nat}{tS:List Nat}:a≠0→jO x a (fu lk tl tS num)→FN lk tl tS num→¬ (tl=told∧tS=nm)→a≤lk→pC x nm told a .exc
noncomputable def qm:Rr→QR
 | .While t _ _ _=>t
 | _=>.Name "" default
noncomputable def ny:Rr→List Rr
 | .While _ b _ _=>b
 | _=>[]
theorem kR {a b:List Nat}:bR a=bR b↔a=b:=by
 unfold bR
 constructor
 ·intro h
  have:=congrArg Qy.cps h
  simpa using this
 ·rintro rfl;rfl
section
variable {X:Cx}{P:bj}{n:Nat}{sc:QM}{ρ af ay:Rw}{b ao b₂:Array UInt8}
theorem aQ.JC {a c:List Nat}:aQ X n .Eq (.str (bR a)) (.str (bR c)) (decide (a=c)):=fun A g s Q E v u R hg aW bt h=>by
 obtain ⟨_,rfl⟩:=aW.j9
 obtain ⟨_,rfl⟩:=bt.j9
 have e:(decide (a=c))=(bR a==bR c):=by
  by_cases q:a=c
  ·subst q;simp
  ·rw [decide_eq_false q]
   exact (beq_eq_false_iff_ne.mpr fun z=>q (kR.mp z)).symm
 rw [e] at h
 exact PyProof.Rows.eq_str h
structure E5 (x:List UInt8) (nm:List Nat) (told a:Nat) (ρ:Rw):Prop where
 o:lk ρ ("octets":Qy)=some (.val (.bytes x.toArray))
 n:lk ρ ("name":Qy)=some (.val (.str (bR nm)))
 t:lk ρ ("told":Qy)=some (.val (.int (told:Int)))
 a:lk ρ ("at":Qy)=some (.val (.int (a:Int)))
noncomputable def JX (ρ:Rw) (l tl num:Nat) (nm:List Nat):Rw:=stores ρ ((["link","own","text","number"]:List Qy).zip (([.int (l:Int),.int (tl:Int),.str (bR nm),.int (num:Int)]:List D).map En.val))
theorem eK (ρ:Rw) (l tl num:Nat) (nm:List Nat) (z:Qy):lk (JX ρ l tl num nm) z=if z="number" then some (.val (.int (num:Int))) else if z="text" then some (.val (.str (bR nm))) else if z="own" then some (.val (.int (tl:Int))) else if z="link" then some (.val (.int (l:Int))) else lk ρ z:=by
 unfold JX
 simp only [stores,Si,List.zip_nil_right,QT,T6,bx]
theorem E5.bC {x:List UInt8}{nm:List Nat}{told a:Nat}{ρ:Rw}(I:E5 x nm told a ρ) (l tl num:Nat) (tS:List Nat):E5 x nm told a (JX ρ l tl num tS) :=
 ⟨(eK ..).trans I.o,(eK ..).trans I.n,(eK ..).trans I.t,(eK ..).trans I.a⟩
theorem E5.go {x:List UInt8}{nm:List Nat}{told a:Nat}{ρ:Rw}(I:E5 x nm told a ρ) (l:Nat):E5 x nm told l (aS ρ "at" (.val (.int (l:Int)))) :=
 ⟨aR I.o,aR I.n,aR I.t,aR rfl⟩
theorem tL (L:cP X P) {x:List UInt8}(hz:x.length≤10000) {nm:List Nat}{told:Nat}{a:Nat}{r:jV}(h:pC x nm told a r):∀ ρ,E5 x nm told a ρ →
  ∃ k ρ',ia X (n+7) (aw (top 29)) (qm (bD (top 29) 3)) (ny (bD (top 29) 3)) k ρ b (match r with|.num j=>.ret (.int (j:Int)) ρ' b|.none=>.next ρ' b|.exc=>.exc b):=by
 obtain ⟨fd,hE⟩:=L.fn 12 _ rfl
 have ne:∀ {a:Nat},a≠0→((a:Int) != 0)=true:=fun h=>bne_iff_ne.mpr (C2 h)
 induction h with
 | zero =>
  intro ρ I
  exact ⟨0,ρ,.done (cg (ai I.a) aC aQ.Fn)⟩
 | @hit a l num h0 hA ok =>
  intro ρ I
  have I':=I.bC l told num nm
  have e1:(((told:Int)==(told:Int))&&decide (nm=nm))=true:=by simp
  exact ⟨0,_,.ret (ne h0▸cg (ai I.a) aC aQ.Fn) (aG (S1.jR (bp (L.gf 8 _ rfl) hE (au (ai I.o) (au (ai I.a) aF)) (la L hz hA ok)) (.cons (.cons (.cons (.cons .nil)))) rfl av)
   (bF (S1.qK (e1▸ST.Ae (cg (ai (eK ..)) (ai I'.t) aQ.vU) fun _=>cg (ai (eK ..)) (ai I'.n) aQ.JC) (bF (bN (ai (eK ..)))))))⟩
 | @miss a l tl num tS r h0 hA ok cy fE hs ih =>
  intro ρ I
  have I':=I.bC l tl num tS
  have e1:(((tl:Int)==(told:Int))&&decide (tS=nm))=false:=by
   rw [Bool.and_eq_false_iff]
   by_cases q:tl=told
   ·exact .inr (decide_eq_false fun e=>cy ⟨q,e⟩)
   ·exact .inl (beq_eq_false_iff_ne.mpr (wX q))
  have e2:decide ((l:Int) ≥ (a:Int))=false:=by simp;exact Cq fE
  obtain ⟨k,ρ',hT⟩:=ih _ (I'.go l)
  exact ⟨k+1,ρ',.next (ne h0▸cg (ai I.a) aC aQ.Fn) (aG (S1.jR (bp (L.gf 8 _ rfl) hE (au (ai I.o) (au (ai I.a) aF)) (la L hz hA ok)) (.cons (.cons (.cons (.cons .nil)))) rfl av)
   (aG (S1.kI (e1▸ST.Ae (cg (ai (eK ..)) (ai I'.t) aQ.vU) fun _=>cg (ai (eK ..)) (ai I'.n) aQ.JC) bX)
   (aG (S1.kI (e2▸cg (ai (eK ..)) (ai I'.a) aQ.Nv) bX)
   (aG (cj (ai (eK ..))) bX)))) hT⟩
 | @loop a l tl num tS h0 hA ok cy hle =>
  intro ρ I
  have I':=I.bC l tl num tS
  have e1:(((tl:Int)==(told:Int))&&decide (tS=nm))=false:=by
   rw [Bool.and_eq_false_iff]
   by_cases q:tl=told
   ·exact .inr (decide_eq_false fun e=>cy ⟨q,e⟩)
   ·exact .inl (beq_eq_false_iff_ne.mpr (wX q))
  have e2:decide ((l:Int) ≥ (a:Int))=true:=by simp;exact Cp hle
  exact ⟨0,ρ,.exc (ne h0▸cg (ai I.a) aC aQ.Fn) (aG (S1.jR (bp (L.gf 8 _ rfl) hE (au (ai I.o) (au (ai I.a) aF)) (la L hz hA ok)) (.cons (.cons (.cons (.cons .nil)))) rfl av)
   (aG (S1.kI (e1▸ST.Ae (cg (ai (eK ..)) (ai I'.t) aQ.vU) fun _=>cg (ai (eK ..)) (ai I'.n) aQ.JC) bX)
   (SS.exc (S1.qK (e2▸cg (ai (eK ..)) (ai I'.a) aQ.Nv) (SS.exc (S1.corrupt L SE.str))))))⟩
end
section
variable {X:Cx}{P:bj}{n:Nat}{sc:QM}{ρ af ay:Rw}{b ao b₂:Array UInt8}
theorem oi (a k:Nat):((a:Int).fmod (k:Int))=((a % k:Nat):Int):=by
 rw [Int.fmod_eq_emod_of_nonneg _ (by exact @pb _)];rfl
theorem zQ (a k:Nat):((a:Int).fdiv (k:Int))=((a / k:Nat):Int):=by
 rw [Int.fdiv_eq_ediv_of_nonneg _ (by exact @pb _)];rfl
theorem r0 (L:cP X P) {x:List UInt8}(hz:x.length≤10000) (h3:(x.getD 0 0).toNat=3) {nm:List Nat}{told a:Nat}{r:jV}(hh:jO x (8+told % 4*2) (aZ a 2)) (ha:a<65536) (h:pC x nm told a r) :
  cb X (n+8) 212 [.bytes x.toArray,.str (bR nm),.int (told:Int)] b (r.rs b):=by
 obtain ⟨fd,hF⟩:=L.fn 13 _ rfl
 obtain ⟨EK,hN⟩:=L.fn 0 _ rfl
 obtain ⟨fw,hW⟩:=L.fn 11 _ rfl
 have hl:=hh.len (by rw [ax];decide)
 have h0:0<x.length:=by exact (Lq 3 0 [fO aj 4] (ag (aq aa (ae 10000)) (ag (aq (ak (ak (ae 8) (cD cM 2)) az) aa) (aD (ae 0) aa)))) hz hl
 have hs:x.toArray.size=x.length:=QH
 have eB:(8:Int)+(told:Int).fmod 4*2=((8+told % 4*2:Nat):Int):=by
  rw [show (4:Int)=((4:Nat):Int) from rfl,oi];exact @J7 _
 have eN:dD (KBy.picked x.toArray (some ((8:Int)+(told:Int).fmod 4*2)) (some ((8:Int)+(told:Int).fmod 4*2+2))).toList=(a:Int):=by
  exact hh.num (k:=2) ha eB
 have pz:(KBy.picked x.toArray (some ((8:Int)+(told:Int).fmod 4*2)) (some ((8:Int)+(told:Int).fmod 4*2+2))).size≤10000:=Qx (KBc.size_picked_le _ _ _) (by rw [hs];exact hz)
 obtain ⟨k,ρ',hT⟩:=tL (n:=n) (b:=b) L hz h (aS (aS ((["octets","name","told"]:List Qy).zip (([.bytes x.toArray,.str (bR nm),.int (told:Int)]:List D).map En.val)) "begin" (.val (.int ((8:Int)+(told:Int).fmod 4*2)))) "at" (.val (.int (a:Int))))
  ⟨rm,rm,rm,rm⟩
 have pre:∀ r:Fl,SS X (n+7) (aw (top 29)) ((bodyOf (top 29)).drop 3) (aS (aS ((["octets","name","told"]:List Qy).zip (([.bytes x.toArray,.str (bR nm),.int (told:Int)]:List D).map En.val)) "begin" (.val (.int ((8:Int)+(told:Int).fmod 4*2)))) "at" (.val (.int (a:Int)))) b r →
   SS X (n+7) (aw (top 29)) (bodyOf (top 29)) ((["octets","name","told"]:List Qy).zip (([.bytes x.toArray,.str (bR nm),.int (told:Int)]:List D).map En.val)) b r:=fun r q =>
  aG (dI (bp (L.gf 7 _ rfl) hW (au (ai rfl) aF) (mh L (by rw [hs];exact A3 hz h0 hs) (by rw [hs];exact DV hz h0 hs) h3)))
  (aG (cj (cZ (SE.jC L 5 rfl) (dH (cK (ai rfl) (SE.jC L 8 rfl) av) (SE.jC L 9 rfl) (mulR av av))))
  (aG (cj (eN▸bp (L.gf 0 _ rfl) hN (au (SE.o7 (ai rfl) (.some (ai rfl)) (.some (cZ (ai rfl) (SE.jC L 9 rfl))) (by rw [hs];exact A3 hz h0 hs)) aF) (eu L pz))) q))
 cases r with
 | num j=>exact bV hF rfl av (pre _ (bF (S1.While hT)))
 | none=>exact bV hF rfl av (pre _ (aG (S1.While hT) (bF (bN SE.none))))
 | exc=>exact cb.exc hF rfl av (pre _ (SS.exc (S1.While hT)))
theorem rZ (L:cP X P) {x:List UInt8}(hz:x.length≤10000) (h0:0<x.length) (h3:(x.getD 0 0).toNat≠3) {d e:D}:cb X (n+5) 212 [.bytes x.toArray,d,e] b (.exc b):=by
 obtain ⟨fd,hF⟩:=L.fn 13 _ rfl
 obtain ⟨fw,hW⟩:=L.fn 11 _ rfl
 have hs:x.toArray.size=x.length:=QH
 exact cb.exc hF rfl av (SS.exc (S1.zT (XE.call (L.gf 7 _ rfl) hW (au (ai rfl) aF) (mf L (by rw [hs];exact A3 hz h0 hs) (by rw [hs];exact DV hz h0 hs) h3))))
end
abbrev Row:=List Nat×Nat
noncomputable def a8 (r:Row):D:=.tup [.str (bR r.1),.int (r.2:Int)]
inductive mG (x:List UInt8):Nat→List Row→Prop
 | nil {a:Nat}:mG x a []
 | cons {a lk tl num:Nat}{nm:List Nat}{rs:List Row}:jO x a (fu lk tl nm num)→FN lk tl nm num→mG x (a+15+nm.length) rs→mG x a ((nm,num)::rs)
noncomputable def encM (nm:List Nat) (num:Nat):List Nat:=[nm.length]++nm++aZ num 8
inductive lr (x:List UInt8):Nat→List Row→Prop
 | nil {a:Nat}:lr x a []
 | cons {a num:Nat}{nm:List Nat}{rs:List Row}:jO x a (encM nm num)→oO nm→num<18446744073709551616→lr x (a+9+nm.length) rs→lr x a ((nm,num)::rs)
section
variable {X:Cx}{P:bj}{n:Nat}{sc:QM}{ρ af ay:Rw}{b ao b₂:Array UInt8}
theorem SE.A8 {np pos:Rd}{e:QR}{nm:List Nat}(he:SE X n sc e ρ b (.str (bR nm)) af ao) (hz:nm.length≤1000000) (hk:autoParam (sc.names.lookup ("len":Qy)=some .globalImplicit) bG) (cv:autoParam (∀ env,QS [e] env=[(false,eval e env)]) cw):SE X n sc (.Call (.Name "len" np) [e] [] pos) ρ b (.int (nm.length:Int)) af ao :=
 SE.sU (T:="len") av he (fun A f g o s Q E v R F r q=>by
  obtain ⟨t,rfl⟩:=r.j9
  obtain ⟨F',S'⟩:=F.tok (s.toks+1+1)
  have e1:(bR nm).length=nm.length:=QH
  exact PyProof.Rows.len_str (by rw [e1];exact (cS (ag (aq aa (ae 1000000)) (ag (aH aj aa) (bI (bM (aJ (2 ^ 63)) (aL aa)))))) hz e1) (q _ g o _ F' S' (e1▸.int _ _))) hk av cv
structure Ma (x:List UInt8) (a:Nat) (acc:List D) (ρ:Rw):Prop where
 o:lk ρ ("octets":Qy)=some (.val (.bytes x.toArray))
 f:lk ρ ("found":Qy)=some (.own acc)
 a:lk ρ ("at":Qy)=some (.val (.int (a:Int)))
noncomputable def Jf (ρ:Rw) (d:D) (l tl num:Nat) (nm:List Nat):Rw:=stores (aS ρ "turn" (.val d)) ((["link","told","name","number"]:List Qy).zip (([.int (l:Int),.int (tl:Int),.str (bR nm),.int (num:Int)]:List D).map En.val))
theorem lT (ρ:Rw) (d:D) (l tl num:Nat) (nm:List Nat) (z:Qy):lk (Jf ρ d l tl num nm) z=if z="number" then some (.val (.int (num:Int))) else if z="name" then some (.val (.str (bR nm))) else if z="told" then some (.val (.int (tl:Int))) else if z="link" then some (.val (.int (l:Int))) else if z="turn" then some (.val d) else lk ρ z:=by
 unfold Jf
 simp only [stores,Si,List.zip_nil_right,QT,T6,bx]
theorem zh (L:cP X P) {x:List UInt8}(hz:x.length≤10000):∀ (rs:List Row) (ds:List D) (a:Nat) (acc:List D) (ρ:Rw),ds.length=rs.length→mG x a rs→acc.length+rs.length≤1000→Ma x a acc ρ →
  ∃ ρ' a',ey X (n+7) (aw (top 30)) (dq (bD (top 30) 2)) (aX (bD (top 30) 2)) ds ρ b (.next ρ' b)∧Ma x a' (acc++rs.map a8) ρ':=by
 intro rs ds a acc ρ hl hr
 obtain ⟨fd,hE⟩:=L.fn 12 _ rfl
 revert ds acc ρ
 induction hr with
 | nil =>
  intro ds acc ρ hl _ I
  obtain rfl:=List.length_eq_zero_iff.mp hl
  exact ⟨ρ,_,.nil,by rw [T6,Sj];exact I⟩
 | @cons a l tl num nm rs hA ok _ bA =>
  intro ds acc ρ hl hc I
  cases ds with
  | nil=>exact (Nat.succ_ne_zero _ hl.symm).elim
  | cons d ds =>
   rw [QC] at hc
   have Bj:acc.length≤1000000:=by exact CK hc
   have f1:lk (Jf ρ d l tl num nm) ("found":Qy)=some (.own acc):=(lT ..).trans I.f
   have I1:Ma x (a+15+nm.length) (acc++[a8 (nm,num)]) (aS (aS (Jf ρ d l tl num nm) "found" (.own (acc++[a8 (nm,num)]))) "at" (.val (.int ((a+15+nm.length:Nat):Int)))) :=
    ⟨aR (aR ((lT ..).trans I.o)),aR (aR rfl),aR rfl⟩
   obtain ⟨ρ',a',hT,I'⟩:=bA ds _ _ (Nat.succ.inj hl) (by rw [QA,QC,QP];exact CJ hc) I1
   have e1:((a:Int)+15+((nm.length:Nat):Int))=((a+15+nm.length:Nat):Int):=by exact @C1 _ _
   have sg:=ok.nm.1
   refine ⟨ρ',a',.next (.name av (by intro h;cases h)) (aG (S1.jR (bp (L.gf 8 _ rfl) hE (au (ai (aR I.o)) (au (ai (aR I.a)) aF)) (la L hz hA ok)) (.cons (.cons (.cons (.cons .nil)))) rfl av)
    (aG (dI (SE.append f1 (SE.tup (au (ai (lT ..)) (au (ai (lT ..)) aF))) f1 Bj))
    (aG (cj (e1▸cZ (cZ (ai (aR ((lT ..).trans I.a))) (SE.jC L 10 rfl)) (SE.A8 (ai (aR ((lT ..).trans rfl))) (Qx sg av)))) bX))) hT,?_⟩
   have:acc++[a8 (nm,num)]++rs.map a8=acc++((nm,num)::rs).map a8:=Q9 ..
   rw [← this]
   exact I'
theorem rY (L:cP X P) {x:List UInt8}(hz:x.length≤10000) (h3:(x.getD 0 0).toNat=3) {rs:List Row}(hc:jO x 2 (aZ rs.length 2)) (hl:rs.length≤1000) (h:mG x 16 rs) :
  cb X (n+8) 219 [.bytes x.toArray] b (.ok (.list (rs.map a8)) b):=by
 obtain ⟨fd,hF⟩:=L.fn 14 _ rfl
 obtain ⟨EK,hN⟩:=L.fn 0 _ rfl
 obtain ⟨fw,hW⟩:=L.fn 11 _ rfl
 have HP:=hc.len (by rw [ax];decide)
 have hs:x.toArray.size=x.length:=QH
 have eN:dD (KBy.picked x.toArray (some (2:Int)) (some (4:Int))).toList=(rs.length:Int):=hc.num (k:=2) (CH hl) (j:=2) rfl
 have pz:(KBy.picked x.toArray (some (2:Int)) (some (4:Int))).size≤10000:=Qx (KBc.size_picked_le _ _ _) (by rw [hs];exact hz)
 obtain ⟨ρ',a',hT,I'⟩:=zh (n:=n) (b:=b) L hz rs ((range ((rs.length:Nat):Int).toNat).map fun (i:Nat)=>D.int (i:Int)) 16 [] (stores ((["octets"]:List Qy).zip (([.bytes x.toArray]:List D).map En.val)) ((["found","at"]:List Qy).reverse.zip ([.own [],.val (.int (8+4*2))]:List En).reverse))
  (by rw [Qu,Q6];rfl) h (by rw [QP];exact CG hl eN) ⟨rm,rm,rm⟩
 exact bV hF rfl av (aG (dI (bp (L.gf 7 _ rfl) hW (au (ai rfl) aF) (mh L (by rw [hs];exact vp hz hs) (by rw [hs];exact (dC (ag (aq aa (ae 10000)) (ag (aq (ak (ae 2) aj) aa) (ag (aH az aa) (aD (ae 0) aa))))) hz HP hs) h3)))
  (aG (S1.gP (i4.cons (SF.lst aF) (i4.cons (SF.ip (cZ (SE.jC L 5 rfl) (dH (SE.jC L 8 rfl) (SE.jC L 9 rfl) (mulR av av)))) i4.nil)) rfl av (by rintro ⟨⟩ h;subst h;rfl))
  (aG (S1.For (mH (eN▸bp (L.gf 0 _ rfl) hN (au (SE.o7 (ai rfl) (.some aC) (.some aC) (by rw [hs];exact vp hz hs)) aF) (eu L pz)) (CF hl eN) (CE hl eN)) hT)
  (bF (bN (SE.my I'.f))))))
end
section
variable {X:Cx}{P:bj}{n:Nat}{sc:QM}{ρ af ay:Rw}{b ao b₂:Array UInt8}
theorem rX (L:cP X P) {x:List UInt8}(hz:x.length≤10000) (h0:0<x.length) (h3:(x.getD 0 0).toNat≠3):cb X (n+5) 219 [.bytes x.toArray] b (.exc b):=by
 obtain ⟨fd,hF⟩:=L.fn 14 _ rfl
 obtain ⟨fw,hW⟩:=L.fn 11 _ rfl
 have hs:x.toArray.size=x.length:=QH
 exact cb.exc hF rfl av (SS.exc (S1.zT (XE.call (L.gf 7 _ rfl) hW (au (ai rfl) aF) (mf L (by rw [hs];exact A3 hz h0 hs) (by rw [hs];exact DV hz h0 hs) h3))))
structure L8 (x:List UInt8) (a:Nat) (acc:List D) (ρ:Rw):Prop where
 c:lk ρ ("cursor":Qy)=some (.obj 0 (gc x.toArray (a:Int)))
 f:lk ρ ("found":Qy)=some (.own acc)
noncomputable def D5 (ρ:Rw) (d:D) (c:List D):Rw:=aS (aS ρ "turn" (.val d)) "cursor" (.obj 0 c)
theorem tT (ρ:Rw) (d:D) (c:List D) (z:Qy):lk (D5 ρ d c) z=if z="cursor" then some (.obj 0 c) else if z="turn" then some (.val d) else lk ρ z:=by
 unfold D5;rw [bx,bx]
noncomputable def Jd (ρ:Rw) (nm:List Nat) (c:List D):Rw:=aS (aS ρ "name" (.val (.str (bR nm)))) "cursor" (.obj 0 c)
theorem y6 (ρ:Rw) (nm:List Nat) (c:List D) (z:Qy):lk (Jd ρ nm c) z=if z="cursor" then some (.obj 0 c) else if z="name" then some (.val (.str (bR nm))) else lk ρ z:=by
 unfold Jd;rw [bx,bx]
theorem y5 (L:cP X P) {x:List UInt8}(hz:x.length≤10000):∀ (rs:List Row) (ds:List D) (a:Nat) (acc:List D) (ρ:Rw),ds.length=rs.length→lr x a rs→acc.length+rs.length≤1000→L8 x a acc ρ →
  ∃ ρ' a',ey X (n+5) (aw (top 23)) (dq (bD (top 23) 1)) (aX (bD (top 23) 1)) ds ρ b (.next ρ' b)∧L8 x a' (acc++rs.map a8) ρ':=by
 intro rs ds a acc ρ hl hr
 revert ds acc ρ
 induction hr with
 | nil =>
  intro ds acc ρ hl _ I
  obtain rfl:=List.length_eq_zero_iff.mp hl
  exact ⟨ρ,_,.nil,by rw [T6,Sj];exact I⟩
 | @cons a num nm rs hA hn hu _ bA =>
  intro ds acc ρ hl hc I
  cases ds with
  | nil=>exact (Nat.succ_ne_zero _ hl.symm).elim
  | cons d ds =>
   rw [QC] at hc
   have Bj:acc.length≤1000000:=by exact CK hc
   have sg:=hn.1
   have hs:x.toArray.size=x.length:=QH
   have vG:=hA.len (by unfold encM;simp only [QA,ax];exact (cS (ag (aq aj (ae 100)) (aD (ae 0) (ak (ak aa aj) (ae 8))))) sg)
   have e0:(encM nm num).length=9+nm.length:=by
    unfold encM
    simp only [QA,ax,QC,QP];exact @vq _
   unfold encM at hA
   have a1:=hA.left.left
   have a2:=hA.left.right
   have a3:=hA.right
   simp only [QA,QC,QP] at a2 a3
   rw [← qy (show nm.length<256 by exact (cS (ag (aq aa (ae 100)) (ag (aH aj (ak (ae 9) aa)) (aD aa (ae 256))))) sg e0)] at a1
   have ht:=a2.b6 (m:=nm.length) rfl (j:=(a:Int)+1) (@G3 _)
   have e2:nB (b6 x.toArray ((a:Int)+1) (nm.length:Int)).toList=bR nm:=by
    rw [ht,rC fun c hc=>by have:=(hn.2 c hc).2;exact RF this av]
   have hT:gJ X (n+5) 135 0 (gc x.toArray (a:Int)) [] b (.str (bR nm)) (gc x.toArray ((a:Int)+1+(nm.length:Int))) b:=by
    rw [← e2]
    refine qd L (by rw [hs];exact hz) (by rw [hs];exact (xD (ag (aq az (ae 100)) (ag (aH a7 aa) (ag (aq (ak aj cM) aa) (ag (aH cM (ak (ae 9) az)) (bM (aJ 1) (fy (aL aa) (aL aj)))))))) sg hs vG e0) (a1.num (k:=1) ((cS (ag (aq aa (ae 100)) (ag (aH aj (ak (ae 9) aa)) (aD aa (ae (256 ^ 1)))))) sg e0) rfl) (by rw [hs];exact (xD (ag (aH a7 aj) (ag (aq (ak az cM) aj) (ag (aH cM (ak (ae 9) aa)) (bM (aL aa) (fy (aL aj) (cn (aL az) (aJ 1)))))))) hs vG e0) rfl fun c hc=>?_
    rw [ht] at hc
    unfold bY at hc
    obtain ⟨d,hd,rfl⟩:=dj hc
    have:=hn.2 d hd
    rw [eJ (by exact A4 this)]
    exact this
   have eN:dD (b6 x.toArray ((a:Int)+1+(nm.length:Int)) 8).toList=(num:Int):=a3.num (k:=8) hu (@G2 _ _)
   have hU:gJ X (n+5) 128 0 (gc x.toArray ((a:Int)+1+(nm.length:Int))) [.int 8] b (.int (num:Int)) (gc x.toArray ((a:Int)+1+(nm.length:Int)+8)) b :=
    eN▸cC L (by rw [hs];exact vp hz hs) (by rw [hs];exact (xD (ag (aH a7 aa) (ag (aq (ak aj cM) aa) (ag (aH cM (ak (ae 9) az)) (bM (aJ 8) (fy (aL aa) (cn (cn (aL aj) (aJ 1)) (aL az)))))))) hs vG e0) (Qx (KBc.size_picked_le _ _ _) (by rw [hs];exact hz))
   have e1:((a:Int)+1+(nm.length:Int)+8)=((a+9+nm.length:Nat):Int):=by exact @G1 _ _
   rw [e1] at hU
   have c0:lk (aS ρ "turn" (.val d)) ("cursor":Qy)=some (.obj 0 (gc x.toArray (a:Int))):=aR I.c
   have fa:lk (aS (D5 ρ d (gc x.toArray ((a:Int)+1+(nm.length:Int)))) "name" (.val (.str (bR nm)))) ("found":Qy)=some (.own acc):=aR ((tT ..).trans I.f)
   have na:lk (aS (D5 ρ d (gc x.toArray ((a:Int)+1+(nm.length:Int)))) "name" (.val (.str (bR nm)))) ("name":Qy)=some (.val (.str (bR nm))):=aR rfl
   have ca:lk (aS (D5 ρ d (gc x.toArray ((a:Int)+1+(nm.length:Int)))) "name" (.val (.str (bR nm)))) ("cursor":Qy)=some (.obj 0 (gc x.toArray ((a:Int)+1+(nm.length:Int)))):=aR ((tT ..).trans rfl)
   have fb:lk (Jd (D5 ρ d (gc x.toArray ((a:Int)+1+(nm.length:Int)))) nm (gc x.toArray ((a+9+nm.length:Nat):Int))) ("found":Qy)=some (.own acc):=(y6 ..).trans ((tT ..).trans I.f)
   have I1:L8 x (a+9+nm.length) (acc++[a8 (nm,num)]) (aS (Jd (D5 ρ d (gc x.toArray ((a:Int)+1+(nm.length:Int)))) nm (gc x.toArray ((a+9+nm.length:Nat):Int))) "found" (.own (acc++[a8 (nm,num)]))):=⟨aR ((y6 ..).trans rfl),aR rfl⟩
   obtain ⟨ρ',a',hR,I'⟩:=bA ds _ _ (Nat.succ.inj hl) (by rw [QA,QC,QP];exact CJ hc) I1
   refine ⟨ρ',a',.next (.name av (by intro h;cases h)) (aG (cj (SE.zc c0 (.tail _ (.tail _ (.tail _ (.head _)))) hT))
    (aG (dI (SE.append fa (SE.tup (au (ai na) (au (SE.iV ca (SE.jC L 6 rfl) ca (.tail _ (.tail _ (.head _))) hU) aF))) fb Bj)) bX)) hR,?_⟩
   have:acc++[a8 (nm,num)]++rs.map a8=acc++((nm,num)::rs).map a8:=Q9 ..
   rw [← this]
   exact I'
theorem kT (L:cP X P) {x:List UInt8}(hz:x.length≤10000) {rs:List Row}(hc:jO x 5 (aZ rs.length 2)) (hl:rs.length≤1000) (h:lr x 7 rs) :
  cb X (n+6) 149 [.bytes x.toArray] b (.ok (.list (rs.map a8)) b):=by
 obtain ⟨fd,hF⟩:=L.fn 7 _ rfl
 obtain ⟨EK,hN⟩:=L.fn 0 _ rfl
 have HP:=hc.len (by rw [ax];decide)
 have hs:x.toArray.size=x.length:=QH
 have eN:dD (KBy.picked x.toArray (some (5:Int)) (some (7:Int))).toList=(rs.length:Int):=hc.num (k:=2) (CH hl) (j:=5) rfl
 have pz:(KBy.picked x.toArray (some (5:Int)) (some (7:Int))).size≤10000:=Qx (KBc.size_picked_le _ _ _) (by rw [hs];exact hz)
 obtain ⟨ρ',a',hT,I'⟩:=y5 (n:=n) (b:=b) L hz rs ((range ((rs.length:Nat):Int).toNat).map fun (i:Nat)=>D.int (i:Int)) 7 [] (stores ((["octets"]:List Qy).zip (([.bytes x.toArray]:List D).map En.val)) ((["cursor","found"]:List Qy).reverse.zip ([.obj 0 (gc x.toArray 7),.own []]:List En).reverse))
  (by rw [Qu,Q6];rfl) h (by rw [QP];exact CG hl eN) ⟨rm,rm⟩
 exact bV hF rfl av (aG (S1.gP (i4.cons (SF.make (c:=0) (L.gf 2 _ rfl) (au (ai rfl) (au (SE.jC L 3 rfl) aF)) (l0 L)) (i4.cons (SF.lst aF) i4.nil)) rfl av (by rintro ⟨⟩ h;subst h;rfl))
  (aG (S1.For (mH (eN▸bp (L.gf 0 _ rfl) hN (au (SE.o7 (ai rfl) (.some aC) (.some aC) (by rw [hs];exact vp hz hs)) aF) (eu L pz)) (CF hl eN) (CE hl eN)) hT)
  (bF (bN (SE.my I'.f)))))
end
theorem rq:∀ (n x y:Nat),x+y≤n→(x ^^^ y)+2*(x &&& y)=x+y:=fun n=>by
 induction n with
 | zero =>
  intro x y h
  have hx:x=0:=by exact (cS (ag (aq (ak aa aj) (ae 0)) (aH aa (ae 0)))) h
  have hy:y=0:=by exact (cS (ag (aq (ak aj aa) (ae 0)) (ag (aH aj (ae 0)) (aH aa (ae 0))))) h hx
  subst hx hy;rfl
 | succ n bA =>
  intro x y h
  by_cases h0:x=0∧y=0
  ·obtain ⟨rfl,rfl⟩:=h0;rfl
  have ih:=bA (x / 2) (y / 2) ((Lq 3 0 [fO aa 2,fO aj 2] (ag (aq (ak aa aj) (ak az (ae 1))) (aq (ak a7 gh) az))) h)
  have a1:(x &&& y) / 2=x / 2 &&& y / 2:=Nat.and_div_two
  have a2:(x ^^^ y) / 2=x / 2 ^^^ y / 2:=Nat.xor_div_two
  have a3:(x &&& y) % 2=1↔x % 2=1∧y % 2=1:=Nat.and_mod_two_eq_one
  have a4:(x ^^^ y) % 2=1↔¬(x % 2=1↔y % 2=1):=Nat.xor_mod_two_eq_one
  rw [← a1,← a2] at ih
  clear a1 a2
  generalize x &&& y=u at *
  generalize x ^^^ y=v at *
  by_cases p:x % 2=1<;>by_cases q:y % 2=1<;>simp only [p,q,true_and,and_true,iff_true,iff_false,true_iff,false_iff,and_self,not_true_eq_false,not_false_eq_true,false_and,and_false] at a3 a4<;>(first|exact (Lq 4 0 [fO aa 2,fO aj 2,fO az 2,fO a7 2] (ag (aH (ak cM (dO 2 oP)) (ak IU (L.N.v 10))) (ag (aH JL (ae 1)) (ag (aH (L.N.v 11) (ae 1)) (ag (aH BM (ae 1)) (ag (bI (aH gh (ae 1))) (aH (ak aa (dO 2 aj)) (ak az a7)))))))) ih p q a3 a4|exact (Lq 4 0 [fO aa 2,fO aj 2,fO az 2,fO a7 2] (ag (aH (ak cM (dO 2 oP)) (ak IU (L.N.v 10))) (ag (aH JL (ae 1)) (ag (bI (aH (L.N.v 11) (ae 1))) (ag (bI (aH BM (ae 1))) (ag (aH gh (ae 1)) (aH (ak aa (dO 2 aj)) (ak az a7)))))))) ih p q a3 a4|exact (Lq 4 0 [fO aa 2,fO aj 2,fO az 2,fO a7 2] (ag (aH (ak cM (dO 2 oP)) (ak IU (L.N.v 10))) (ag (bI (aH JL (ae 1))) (ag (aH (L.N.v 11) (ae 1)) (ag (bI (aH BM (ae 1))) (ag (aH gh (ae 1)) (aH (ak aa (dO 2 aj)) (ak az a7)))))))) ih p q a3 a4|exact (Lq 4 0 [fO aa 2,fO aj 2,fO az 2,fO a7 2] (ag (aH (ak cM (dO 2 oP)) (ak IU (L.N.v 10))) (ag (bI (aH JL (ae 1))) (ag (bI (aH (L.N.v 11) (ae 1))) (ag (bI (aH BM (ae 1))) (ag (bI (aH gh (ae 1))) (aH (ak aa (dO 2 aj)) (ak az a7)))))))) ih p q a3 a4)
theorem wg {x y:Int}(hx:0≤x) (hy:0≤y) (Ef:x<4294967296) (MI:y<4294967296):0≤Builtin.bitXor x y∧Builtin.bitXor x y<4294967296:=by
 have e:Builtin.bitXor x y=((x.toNat ^^^ y.toNat:Nat):Int):=by
  rw [bitXor_and,bitAnd_pp hx hy]
  have:=rq _ x.toNat y.toNat (QV _)
  exact (Lq 2 2 [gk bc,gk mW] (ag (bM (aJ 0) bc) (ag (bM (aJ 0) mW) (ag (cU bc (aJ 4294967296)) (ag (cU mW (aJ 4294967296)) (ag (aH (ak aj (dO 2 aa)) (ak az a7)) (cu (fy (cn bc mW) (BL 2 (aL aa))) (aL aj)))))))) hx hy Ef MI this
 have h:=Nat.xor_lt_two_pow (n:=32) (x:=x.toNat) (y:=y.toNat) (B2 hx Ef) (B2 hy MI)
 rw [e];exact (dW (ag (aD aa (ae (2 ^ 32))) (dB (bM (aJ 0) (aL aa)) (cU (aL aa) (aJ 4294967296))))) h
noncomputable def aT (nm:List Nat) (salt:Nat):Nat:=(jQ nm (salt:Int)).toNat
theorem lG (nm:List Nat) (s:Int):0≤jQ nm s∧jQ nm s<4294967296:=by
 have k:∀ z:Int,0≤z.fmod (2 ^ 32)∧z.fmod (2 ^ 32)<4294967296:=fun z=>by
  rw [Int.fmod_eq_emod_of_nonneg _ av]
  exact ⟨Int.emod_nonneg z av,Int.emod_lt_of_pos z av⟩
 have d:∀ z:Int,0≤z→z<4294967296→0≤z.fdiv (2 ^ 16)∧z.fdiv (2 ^ 16)<4294967296:=fun z h1 h2=>by
  rw [Int.fdiv_eq_ediv_of_nonneg _ av]
  exact ⟨Int.ediv_nonneg h1 av,Int.lt_of_le_of_lt (Int.ediv_le_self _ h1) h2⟩
 unfold jQ vN
 dsimp only
 obtain ⟨h1,h2⟩:=k (Builtin.bitXor ((Builtin.bitXor (foldl fK (k8 s) nm) ((foldl fK (k8 s) nm).fdiv (2 ^ 15))*2246822519).fmod (2 ^ 32)) (((Builtin.bitXor (foldl fK (k8 s) nm) ((foldl fK (k8 s) nm).fdiv (2 ^ 15))*2246822519).fmod (2 ^ 32)).fdiv (2 ^ 13))*3266489917)
 obtain ⟨h3,h4⟩:=d _ h1 h2
 exact wg h1 h3 h2 h4
theorem jP (nm:List Nat) (salt:Nat):jQ nm (salt:Int)=(aT nm salt:Int):=by
 have:=(lG nm (salt:Int)).1
 unfold aT;exact (Lq 0 1 [gk bc] (ag (bM (aJ 0) bc) (cu bc (aL aa)))) this
theorem eH (nm:List Nat) (salt:Nat):aT nm salt<4294967296:=by
 have:=(lG nm (salt:Int)).2
 have:=(lG nm (salt:Int)).1
 unfold aT;exact (Lq 0 1 [gk bc] (ag (cU bc (aJ 4294967296)) (ag (bM (aJ 0) bc) (aD aa (ae 4294967296))))) (by assumption) this
noncomputable def eU (b:Array UInt8) (k:Nat):List UInt8:=dR b.toList (k*256) 256
theorem cR (b:Array UInt8) (k:Nat):(eU b k).length=256:=eL _ _ _
noncomputable def e8 (b:Array UInt8) (k:Nat):Nat:=((eU b k).getD 0 0).toNat
noncomputable def ix (bits salt many behind tb:Nat):List Nat:=[2]++[bits]++aZ salt 4++aZ many 4++aZ behind 4++aZ tb 4
theorem jO.BW {x:List UInt8}{i m:Nat}{l:List Nat}(h:jO x i l) (hm:i+l.length≤m):jO (x.take m) i l:=by
 obtain ⟨r,h⟩:=h
 refine ⟨r.take (m-i-l.length),?_⟩
 rw [List.drop_take,h,List.take_append,aK]
 rw [RX (by rw [aK];exact (Lq 3 0 [b9 aj az] (ag (aq (ak az aa) aj) (aq aa a7))) hm)]
section
variable {X:Cx}{P:bj}{n:Nat}{sc:QM}{ρ af ay:Rw}{b ao b₂:Array UInt8}
theorem zS (L:cP X P) {x:List UInt8}{bits salt many behind tb:Nat}(hz:x.length≤10000) (h:jO x 0 (ix bits salt many behind tb)) (hb:bits<256) (hs:salt<4294967296) (hm:many<4294967296) (hh:behind<4294967296) (ht:tb<4294967296) :
  cb X (n+6) 184 [.bytes x.toArray] b (.ok (.inst 1 (zP (bits:Int) (salt:Int) (many:Int) (behind:Int) (tb:Int))) b):=by
 have hl:=h.len (by unfold ix;simp only [QA,ax,QC];exact @Gn _)
 have mC:x.toArray.size=x.length:=QH
 unfold ix at h hl
 simp only [QA,ax,QC,QP] at hl
 have a1:=h.left.left.left.left.right
 have a2:=h.left.left.left.right
 have a3:=h.left.left.right
 have a4:=h.left.right
 have a5:=h.right
 simp only [QA,ax,QC,QP] at a1 a2 a3 a4 a5
 rw [← qy hb] at a1
 have e1:dD (b6 x.toArray 1 1).toList=(bits:Int):=a1.num (k:=1) ((dW (ag (aD aa (ae 256)) (aD aa (ae (256 ^ 1))))) hb) (j:=1) @Gm
 have e2:dD (b6 x.toArray (1+1) 4).toList=(salt:Int):=a2.num (k:=4) hs (j:=1+1) @Gk
 have e3:dD (b6 x.toArray (1+1+4) 4).toList=(many:Int):=a3.num (k:=4) hm (j:=1+1+4) @Gj
 have e4:dD (b6 x.toArray (1+1+4+4) 4).toList=(behind:Int):=a4.num (k:=4) hh (j:=1+1+4+4) @Gi
 have e5:dD (b6 x.toArray (1+1+4+4+4) 4).toList=(tb:Int):=a5.num (k:=4) ht (j:=1+1+4+4+4) @Gh
 rw [← e1,← e2,← e3,← e4,← e5]
 exact uA (n:=n) (b:=b) L (x:=x.toArray) (by rw [mC];exact hz) (by rw [mC];exact (cS (ag (aq aa (ae 10000)) (ag (aH aj aa) (ag (aq (ak (ae 0) (ak (ak (ak (ak (ak (ak (ae 0) (ae 1)) (ak (ae 0) (ae 1))) (ae 4)) (ae 4)) (ae 4)) (ae 4))) aa) (aq (ae 18) aa))))) hz mC hl)
end
section
variable {X:Cx}{P:bj}{n:Nat}{sc:QM}{ρ af ay:Rw}{b ao b₂:Array UInt8}
theorem m5 (L:cP X P) {x:List UInt8}{k:Nat}(hz:x.length≤10000) (h0:0<x.length) (hk:(x.getD 0 0).toNat=k) (h:k=1∨k=2):cb X (n+1) 191 [.bytes x.toArray] b (.ok (.int (k:Int)) b) :=
 wB L (by rw [QH];exact (dW (ag (aq aa (ae 10000)) (ag (aD (ae 0) aa) (aq aa (ae 1000000))))) hz h0) (by rw [QH];exact h0) hk h
theorem iz (L:cP X P) (hz:b.size≤1000000):cb X (n+3) 240 [.ext 0,.int 1] b (.ok (.bytes (eU b 0).toArray) b):=by
 have e:eU b 0=dR b.toList 0 256:=by unfold eU;rw [Nat.zero_mul]
 rw [e]
 exact pg L hz
noncomputable def TabAt (b:Array UInt8) (tb i leaf:Nat):Prop:=dR b.toList (tb*256+4*i) 4=bY (aZ leaf 4)
theorem FX (L:cP X P) {a1 a2 a3 a4:Int}{tb i leaf:Nat}(hz:b.size≤1000000) (hi:i≤1000) (ht:TabAt b tb i leaf) (hl:leaf<4294967296) :
  cb X (n+3) 254 [.ext 0,.int 1,.inst 1 (zP a1 a2 a3 a4 (tb:Int)),.int (i:Int),.int 256] b (.ok (.int (leaf:Int)) b):=by
 have h:=oZ (n:=n) (a1:=a1) (a2:=a2) (a3:=a3) (a4:=a4) (tb:=tb) (i:=i) (m:=256) L hz hi av
 rw [ht,nQ 4 leaf (by exact (dW (ag (aD aa (ae 4294967296)) (aD aa (ae (256 ^ 4))))) hl)] at h
 exact h
theorem tm (L:cP X P) (hz:b.size≤1000000) (h0:e8 b 0≠1∧e8 b 0≠2) {nm:Qy}:cb X (n+6) 264 [.ext 0,.int 1,.str nm] b (.exc b):=by
 obtain ⟨fd,hF⟩:=L.fn 21 _ rfl
 obtain ⟨f1,hB⟩:=L.fn 17 _ rfl
 obtain ⟨f2,hS⟩:=L.fn 10 _ rfl
 have hl:=cR b 0
 exact cb.exc hF rfl av (aG (cj (bp (L.gf 13 _ rfl) hB (au (ai rfl) (au (ai rfl) aF)) (iz L hz)))
  (SS.exc (S1.ME (XT.II (XE.call (L.gf 6 _ rfl) hS (au (ai rfl) aF) (pG L (by rw [QH];exact Qx (RP hl) av) (by rw [QH];exact pO hl) rfl h0))))))
theorem head_filter {nm:List Nat}:∀ rs:List Row,((rs.map a8).filter fun d=>match d with|.tup [.str x,_]=>decide (x=bR nm)|_=>false).map (fun d=>match d with|.tup [_,.int k]=>D.int k|_=>.none)=(rs.filter fun r=>decide (r.1=nm)).map fun r=>.int (r.2:Int):=by
 intro rs
 induction rs with
 | nil =>
  exact rfl
 | cons lq r bA =>
  obtain ⟨x,k⟩:=lq
  rw [QT]
  by_cases q:x=nm
  ·subst q
   rw [List.filter_cons_of_pos (by simp [a8]),List.filter_cons_of_pos (by simp),QT,QT,bA];rfl
  ·rw [List.filter_cons_of_neg (by simp only [a8];simpa using fun z=>q (kR.mp z)),List.filter_cons_of_neg (by simpa using q),bA]
theorem zr:∀ (ks:List Nat),(!QG.eqv (.list (ks.map fun (k:Nat)=>QG.int (k:Int))) (.list []))=!ks.isEmpty:=fun ks=>by
 induction ks with
 | nil =>
  exact by simp [QG.eqv,QG.eqvAll]
 | cons k r bA =>
  exact by simp [QG.eqv,QG.eqvAll]
theorem ofPys_ints:∀ (ks:List Nat),ofPys (ks.map fun (k:Nat)=>QG.int (k:Int))=ks.map fun (k:Nat)=>D.int (k:Int):=fun ks=>by
 induction ks with
 | nil =>
  exact rfl
 | cons k r bA =>
  exact by rw [QT,QT,ofPys,bA];rfl
theorem shaped_ints:∀ (ks:List Nat),shaped (.list (ks.map fun (k:Nat)=>QG.int (k:Int)))=true:=fun ks=>by
 have h1:∀ ks:List Nat,QG.canLayAll0 (ks.map fun (k:Nat)=>QG.int (k:Int))=true:=fun ks=>by
  induction ks with
  | nil=>rfl
  | cons k r ih=>simp only [QT,QG.canLayAll0,QG.canLay0,ih,Bool.and_self]
 have h2:∀ ks:List Nat,QG.depthAll (ks.map fun (k:Nat)=>QG.int (k:Int))≤1:=fun ks=>by
  induction ks with
  | nil=>simp [QG.depthAll]
  | cons k r ih=>simp only [QT,QG.depthAll,QG.depth];exact (Lq 1 0 [oQ (ae 0) aa] (ag (aq aa (ae 1)) (aq aj (ae 1)))) ih
 unfold shaped
 simp only [QG.canLay0,h1,Bool.true_and,QG.depth]
 have:=h2 ks
 exact decide_eq_true (yR this)
noncomputable def Dt:List Nat→jV
 | []=>.none
 | k::_=>.num k
theorem nt (L:cP X P) (hz:b.size≤1000000) (h0:e8 b 0=1) {rs:List Row}(hc:jO (eU b 0) 5 (aZ rs.length 2)) (hl:rs.length≤1000) (h:lr (eU b 0) 7 rs) {nm:List Nat} :
  cb X (n+8) 264 [.ext 0,.int 1,.str (bR nm)] b ((Dt ((rs.filter fun r=>decide (r.1=nm)).map (·.2))).rs b):=by
 obtain ⟨fd,hF⟩:=L.fn 21 _ rfl
 obtain ⟨f1,hB⟩:=L.fn 17 _ rfl
 obtain ⟨f2,hS⟩:=L.fn 10 _ rfl
 obtain ⟨f3,hM⟩:=L.fn 7 _ rfl
 have lC:=cR b 0
 have e0:(((1:Nat):Int)==1)=true:=rfl
 have jc:∀ d∈rs.map a8,∃ (x:List Nat) (k:Nat),d=.tup [.str (bR x),.int (k:Int)]:=fun d hd=>by
  obtain ⟨r,_,rfl⟩:=dj hd;exact ⟨_,_,rfl⟩
 have M4:((rs.filter fun r=>decide (r.1=nm)).map fun r=>D.int (r.2:Int))=((rs.filter fun r=>decide (r.1=nm)).map (·.2)).map fun (k:Nat)=>D.int (k:Int):=by rw [Rk];rfl
 generalize hk:(rs.filter fun r=>decide (r.1=nm)).map (·.2)=ks at M4 ⊢
 have hT:bQ X (n+7) (ik (aw (top 40)) (match (bD (top 40) 1) with|.If _ (.Assign _ (.ListComp _ _ s _) _::_) _ _=>s|_=>default)) (.Tuple [.Name "text" (match (bD (top 40) 1) with|.If _ (.Assign _ (.ListComp _ [⟨.Tuple [.Name _ p,_] _ _,_,_,_⟩] s _) _::_) _ _=>p|_=>default),.Name "number" (match (bD (top 40) 1) with|.If _ (.Assign _ (.ListComp _ [⟨.Tuple [_,.Name _ p] _ _,_,_,_⟩] s _) _::_) _ _=>p|_=>default)] (match (bD (top 40) 1) with|.If _ (.Assign _ (.ListComp _ [⟨.Tuple _ c _,_,_,_⟩] s _) _::_) _ _=>c|_=>default) (match (bD (top 40) 1) with|.If _ (.Assign _ (.ListComp _ [⟨.Tuple _ _ p,_,_,_⟩] s _) _::_) _ _=>p|_=>default))
   (match (bD (top 40) 1) with|.If _ (.Assign _ (.ListComp _ [⟨_,_,ifs,_⟩] s _) _::_) _ _=>ifs|_=>[]) (match (bD (top 40) 1) with|.If _ (.Assign _ (.ListComp e _ s _) _::_) _ _=>e|_=>.Name "" default) b (rs.map a8) [("name",.val (.str (bR nm)))] (ks.map fun (k:Nat)=>D.int (k:Int)):=by
  rw [← M4,← head_filter]
  exact bQ.some (fun ρ=>lk ρ ("name":Qy)=some (.val (.str (bR nm)))) _ _ _ (fun d hd ρ hI=>by
   obtain ⟨x,k,rfl⟩:=jc d hd
   have e:(decide (bR x=bR nm))=decide (x=nm):=by
    by_cases q:x=nm
    ·subst q;simp
    ·rw [decide_eq_false q,decide_eq_false fun z=>q (kR.mp z)]
   exact ⟨_,.tup (xs:=["text","number"]) (.cons (.cons .nil)) rfl av av,(aR (aR ‹_›)),Eq.mp (congrArg (fun t=>ST X (n+7) _ _ _ b t _ b) e.symm) (cg (ai (aR (aR rfl))) (ai (aR (aR ‹_›))) aQ.JC),fun _=>ai (aR rfl)⟩) _ rfl
 have H9:aQ X (n+7) .NotEq (.list (ks.map fun (k:Nat)=>D.int (k:Int))) (.list []) (!ks.isEmpty):=by
  rw [← zr]
  exact aQ.Mu (.list (ks.map fun (k:Nat)=>QG.int (k:Int))) (.list []) (by rw [ofPy,ofPys_ints]) rfl (shaped_ints ks) rfl
 have hlen:(rs.map a8).length≤100000:=by rw [Qu];exact Qx hl av
 have pre:∀ {d:D}{ρ':Rw},S1 X (n+7) (aw (top 40)) ((match (bD (top 40) 1) with|.If _ b _ _=>b|_=>[]).getD 1 (.Pass default)) (aS (aS ((["view","object_now","name"]:List Qy).zip (([.ext 0,.int 1,.str (bR nm)]:List D).map En.val)) "octets" (.val (.bytes (eU b 0).toArray))) "found" (.val (.list (ks.map fun (k:Nat)=>D.int (k:Int))))) b (.ret d ρ' b) →
   cb X (n+8) 264 [.ext 0,.int 1,.str (bR nm)] b (.ok d b):=fun q=>bV hF rfl av (aG (cj (bp (L.gf 13 _ rfl) hB (au (ai rfl) (au (ai rfl) aF)) (iz L hz)))
  (bF (S1.qK (e0▸cg (bp (L.gf 6 _ rfl) hS (au (ai rfl) aF) (m5 (k:=1) L (Qx (RP lC) av) (pO lC) h0 (.inl rfl))) (SE.jC L 0 rfl) aQ.vU)
   (aG (S1.nj (own:=false) (fW:=["name"]) (IT.wj (bp (L.gf 3 _ rfl) hM (au (ai rfl) aF) (kT L (Qx (RP lC) av) hc hl h)) (fun d hd=>by obtain ⟨x,k,rfl⟩:=jc d hd;exact ⟨_,rfl⟩)) av (.cons rfl .nil) (.cons rfl .nil) hT hlen av (by rintro ⟨⟩ h;subst h;rfl))
   (bF q)))))
 cases ks with
 | nil=>exact pre (bN (SE.kI (cg (ai rfl) (dk aF) H9) SE.none))
 | cons k r=>exact pre (bN (SE.qK (cg (ai rfl) (dk aF) H9) (SE.gA (ai rfl) aC av av rfl)))
end
section
variable {X:Cx}{P:bj}{n:Nat}{sc:QM}{ρ af ay:Rw}{b ao b₂:Array UInt8}
structure BQ (b:Array UInt8) (bits salt many behind tb:Nat):Prop where
 h0:e8 b 0=2
 at_:jO (eU b 0) 0 (ix bits salt many behind tb)
 bits:bits≤3
 salt:salt<4294967296
 many:many<4294967296
 behind:behind<4294967296
 tb:tb<4294967296
theorem pow_div (told bits:Nat) (h:bits≤32):((told:Int).fdiv (2 ^ (32-(bits:Int)).toNat))=((told / 2 ^ (32-bits):Nat):Int):=by
 rw [show (32-(bits:Int)).toNat=32-bits by exact CQ h]
 rw [show ((2:Int) ^ (32-bits))=((2 ^ (32-bits):Nat):Int) by simp]
 exact zQ _ _
theorem rf (L:cP X P) {k:Nat}(hz:b.size≤1000000):cb X (n+3) 247 [.ext 0,.int 1,.int (k:Int),.int 256] b (.ok (.bytes (eU b k).toArray) b) :=
 uJ (m:=256) L hz av
theorem qk (L:cP X P) (hz:b.size≤1000000) {bits salt many behind tb leaf:Nat}(H:BQ b bits salt many behind tb) {nm:List Nat}(ht:TabAt b tb (aT nm salt / 2 ^ (32-bits)) leaf) (hl:leaf<4294967296) {a:jV}
  (hf:cb X (n+8) 212 [.bytes (eU b leaf).toArray,.str (bR nm),.int (aT nm salt:Int)] b (a.rs b)):cb X (n+9) 264 [.ext 0,.int 1,.str (bR nm)] b (a.rs b):=by
 obtain ⟨fd,hF⟩:=L.fn 21 _ rfl
 obtain ⟨f1,hB⟩:=L.fn 17 _ rfl
 obtain ⟨f2,hS⟩:=L.fn 10 _ rfl
 obtain ⟨f3,hH⟩:=L.fn 9 _ rfl
 obtain ⟨f4,hZ⟩:=L.fn 15 _ rfl
 obtain ⟨f5,hT⟩:=L.fn 19 _ rfl
 obtain ⟨f6,hG⟩:=L.fn 16 _ rfl
 obtain ⟨f7,hK⟩:=L.fn 18 _ rfl
 obtain ⟨f8,hL⟩:=L.fn 13 _ rfl
 have lC:=cR b 0
 have hb:=H.bits
 have e0:(((2:Nat):Int)==1)=false:=rfl
 have LU:KBy.picked (eU b 0).toArray none (some 18)=((eU b 0).take 18).toArray:=lQ (eU b 0).toArray 18
 have ez:(((eU b 0).toArray.size:Nat):Int)=256:=by rw [QH,lC];rfl
 have fE:aT nm salt / 2 ^ (32-bits)≤1000:=by
  have h1:=eH nm salt
  have h2:2 ^ (32-bits) ≥ 2 ^ 29:=Q3 av ((Lq 1 0 [b9 (ae 32) aa] (ag (aq aa (ae 3)) (aq (ae 29) aj))) hb)
  have:aT nm salt / 2 ^ (32-bits)<8:=Nat.div_lt_of_lt_mul ((cS (ag (aD aa (ae 4294967296)) (ag (aq (ae (2 ^ 29)) aj) (aD aa (cD aj 8))))) h1 h2)
  exact Qx (R9 this) av
 have hA:=zS (n:=n+2) (b:=b) L (x:=(eU b 0).take 18) (by rw [SH];exact B4 lC) (H.at_.BW (by unfold ix;simp only [QA,ax,QC,QP];exact @B3)) (Q8 hb av) H.salt H.many H.behind H.tb
 generalize Bc:aS (aS (aS (aS ((["view","object_now","name"]:List Qy).zip (([.ext 0,.int 1,.str (bR nm)]:List D).map En.val)) "octets" (.val (.bytes (eU b 0).toArray))) "head" (.val (.inst 1 (zP (bits:Int) (salt:Int) (many:Int) (behind:Int) (tb:Int))))) "told" (.val (.int (aT nm salt:Int)))) "leaf" (.val (.int (leaf:Int)))=ρ
 have pre:∀ {r:Fl},S1 X (n+8) (aw (top 40)) ((bodyOf (top 40)).getD 5 (.Pass default)) ρ b r→(∀ ρ':Rw,r≠.next ρ' b)→(∃ d,r=.ret d ρ b)∨r=.exc b→cb X (n+9) 264 [.ext 0,.int 1,.str (bR nm)] b (match r with|.ret d _ b=>.ok d b|.next _ b=>.ok .none b|.exc b=>.exc b):=fun {r} q hn hr=>by
  subst Bc
  have Hx:SE X (n+8) (aw (top 40)) (match (bodyOf (top 40)).getD 3 (.Pass default) with|.Assign _ v _=>v|_=>.Name "" default) (aS (aS ((["view","object_now","name"]:List Qy).zip (([.ext 0,.int 1,.str (bR nm)]:List D).map En.val)) "octets" (.val (.bytes (eU b 0).toArray))) "head" (.val (.inst 1 (zP (bits:Int) (salt:Int) (many:Int) (behind:Int) (tb:Int))))) b (.int (aT nm salt:Int)) (aS (aS ((["view","object_now","name"]:List Qy).zip (([.ext 0,.int 1,.str (bR nm)]:List D).map En.val)) "octets" (.val (.bytes (eU b 0).toArray))) "head" (.val (.inst 1 (zP (bits:Int) (salt:Int) (many:Int) (behind:Int) (tb:Int))))) b :=
   bp (L.gf 11 _ rfl) hZ (au (ai rfl) (au (SE.qi (k:=1) (ai rfl) rfl rfl) aF)) ((jP nm salt)▸fh L)
  have body:SS X (n+8) (aw (top 40)) (bodyOf (top 40)) ((["view","object_now","name"]:List Qy).zip (([.ext 0,.int 1,.str (bR nm)]:List D).map En.val)) b r :=
   aG (cj (bp (L.gf 13 _ rfl) hB (au (ai rfl) (au (ai rfl) aF)) (iz L hz)))
   (aG (S1.kI (e0▸cg (bp (L.gf 6 _ rfl) hS (au (ai rfl) aF) (m5 (k:=2) L (Qx (RP lC) av) (pO lC) H.h0 (.inr rfl))) (SE.jC L 0 rfl) aQ.vU) bX)
   (aG (cj (bp (L.gf 5 _ rfl) hH (au (LU▸SE.o7 (ai rfl) .none (.some (SE.jC L 4 rfl)) (by rw [QH];exact Qx (RP lC) av)) aF) hA))
   (aG (cj Hx)
   (aG (cj (bp (L.gf 15 _ rfl) hT (au (ai rfl) (au (ai rfl) (au (ai rfl) (au (bp (L.gf 12 _ rfl) hG (au (ai rfl) (au (SE.qi (k:=0) (ai rfl) rfl rfl) aF)) (pow_div (aT nm salt) bits (Qx hb av)▸qU L ((dW (ag (aq aa (ae 3)) (bM (aL aa) (aJ 32)))) hb)))
    (au (ez▸SE.pd (ai rfl) (by rw [QH];exact Qx (RP lC) av)) aF))))) (FX L hz fE ht hl)))
   (SS.one q)))))
  rcases hr with ⟨d,rfl⟩|rfl
  ·exact bV hF rfl av body
  ·exact cb.exc hF rfl av body
 have EY:SE X (n+8) (aw (top 40)) (match (bodyOf (top 40)).getD 5 (.Pass default) with|.Return (some (.Call _ (a::_) _ _)) _=>a|_=>.Name "" default) ρ b (.bytes (eU b leaf).toArray) ρ b:=by
  subst Bc
  exact bp (L.gf 14 _ rfl) hK (au (ai rfl) (au (ai rfl) (au (ai rfl) (au (ez▸SE.pd (ai rfl) (by rw [QH];exact Qx (RP lC) av)) aF)))) (rf L hz)
 have hn:lk ρ ("name":Qy)=some (.val (.str (bR nm))):=by subst Bc;rfl
 have KC:lk ρ ("told":Qy)=some (.val (.int (aT nm salt:Int))):=by subst Bc;rfl
 cases a with
 | num j=>exact pre (bN (bp (L.gf 9 _ rfl) hL (au EY (au (ai hn) (au (ai KC) aF))) hf)) (by intro _ h;cases h) (.inl ⟨_,rfl⟩)
 | none=>exact pre (bN (bp (L.gf 9 _ rfl) hL (au EY (au (ai hn) (au (ai KC) aF))) hf)) (by intro _ h;cases h) (.inl ⟨_,rfl⟩)
 | exc=>exact pre (S1.DK (XE.call (L.gf 9 _ rfl) hL (au EY (au (ai hn) (au (ai KC) aF))) hf)) (by intro _ h;cases h) (.inr rfl)
end
noncomputable def nq {α:Type}(n:Nat) (lt:Nat→Nat→Bool) (Q:α→Prop):KasT α→Prop
 | .ret a=>Q a
 | .ask i j k=>i<n∧j<n∧i≠j∧nq n lt Q (k (lt i j))
theorem nq.bind {α β:Type}{n:Nat}{lt:Nat→Nat→Bool}{Q:β→Prop}{f:α→KasT β}:∀ {t:KasT α},nq n lt (fun a=>nq n lt Q (f a)) t→nq n lt Q (t.bind f)
 | .ret _,h=>h
 | .ask _ _ _,h=>⟨h.1,h.2.1,h.2.2.1,nq.bind h.2.2.2⟩
theorem nq.wp {α:Type}{n:Nat}{lt:Nat→Nat→Bool}{Q:α→Prop}{cmp:Nat→Nat→(Bool→Qs→Prop)→Qs→Prop} {G:α→Qs→Prop}{s:Qs}(hc:∀ i j C,i<n→j<n→i≠j→C (lt i j) s→cmp i j C s) (hG:∀ a,Q a→G a s):∀ {t:KasT α},nq n lt Q t→t.kasWp cmp G s
 | .ret a,h=>hG a h
 | .ask i j k,h=>hc i j _ h.1 h.2.1 h.2.2.1 (nq.wp hc hG h.2.2.2)
structure pD (n:Nat) (lt:Nat→Nat→Bool):Prop where
 Mj:∀ i j,i<n→j<n→i≠j→lt i j=true∨lt j i=true
 tr:∀ i j k,i<n→j<n→k<n→lt i j=true→lt j k=true→lt i k=true
structure Pm (n:Nat) (p:Array Nat):Prop where
 perm:p.toList.Perm (range n)
theorem Pm.size {n:Nat}{p:Array Nat}(h:Pm n p):p.size=n:=by
 have:=h.perm.length_eq
 rw [Q6] at this
 simpa using this
theorem getD_some {p:Array Nat}{i x:Nat}(h:p[i]?=some x):p.getD i 0=x:=by
 rw [Array.getD_eq_getD_getElem?,h];rfl
theorem Pm.get {n:Nat}{p:Array Nat}(h:Pm n p) {i:Nat}(hi:i<n):p[i]?=some (p.getD i 0):=by
 have hs:=h.size
 have pf:i<p.size:=by exact ju hi hs
 rw [getD_some (getElem?_pos p i pf)]
 exact getElem?_pos p i pf
theorem Pm.lt {n:Nat}{p:Array Nat}(h:Pm n p) {i:Nat}(hi:i<n):p.getD i 0<n:=by
 have:=h.get hi
 have hm:p.getD i 0∈p.toList:=by
  rw [Array.mem_toList_iff]
  exact Array.mem_of_getElem? this
 exact R8.mp (h.perm.mem_iff.mp hm)
theorem Pm.inj {n:Nat}{p:Array Nat}(h:Pm n p) {i j:Nat}(hi:i<n) (hj:j<n) (e:p.getD i 0=p.getD j 0):i=j:=by
 have hn:p.toList.Nodup:=h.perm.nodup_iff.mpr List.nodup_range
 have hs:=h.size
 have e1:=h.get hi
 have e2:=h.get hj
 rw [e] at e1
 rw [← Rx] at e1 e2
 obtain ⟨h1,e1⟩:=g7 e1
 obtain ⟨h2,e2⟩:=g7 e2
 exact (List.getElem_inj hn).mp (e1.trans e2.symm)
theorem Pm.ne {n:Nat}{p:Array Nat}(h:Pm n p) {i j:Nat}(hi:i<n) (hj:j<n) (cy:i≠j):p.getD i 0≠p.getD j 0:=fun e=>cy (h.inj hi hj e)
theorem Pm.vh {n:Nat}{p q:Array Nat}(h:Pm n p) (k:q.Perm p):Pm n q:=⟨(Array.perm_iff_toList_perm.mp k).trans h.perm⟩
theorem Pm.start (n:Nat):Pm n (range n).toArray:=⟨.refl _⟩
section
variable {n:Nat}{lt:Nat→Nat→Bool}{p:Array Nat}
noncomputable def xE (lt:Nat→Nat→Bool) (p:Array Nat) (m:Nat):Prop:=∀ i j,i<j→j<m→lt (p.getD i 0) (p.getD j 0)=true
noncomputable def IX (lt:Nat→Nat→Bool) (p:Array Nat) (m:Nat):Prop:=∀ i j,i<j→j<m→lt (p.getD j 0) (p.getD i 0)=true
theorem xE.snoc (T:pD n lt) (H:Pm n p) {m:Nat}(h:xE lt p m) (hm:m<n) (h1:1≤m) (hl:lt (p.getD (m-1) 0) (p.getD m 0)=true):xE lt p (m+1):=fun i j k7 hj=>by
 by_cases q:j=m
 ·subst q
  by_cases q2:i=j-1
  ·subst q2;exact hl
  ·exact T.tr _ _ _ (H.lt (by exact rQ k7 hm)) (H.lt (by exact Cf hm h1)) (H.lt hm) (h i (j-1) (by exact Ce k7 h1 q2) (by exact Cd h1)) hl
 ·exact h i j k7 (by exact vn hj q)
theorem IX.snoc (T:pD n lt) (H:Pm n p) {m:Nat}(h:IX lt p m) (hm:m<n) (h1:1≤m) (hl:lt (p.getD m 0) (p.getD (m-1) 0)=true):IX lt p (m+1):=fun i j k7 hj=>by
 by_cases q:j=m
 ·subst q
  by_cases q2:i=j-1
  ·subst q2;exact hl
  ·exact T.tr _ _ _ (H.lt hm) (H.lt (by exact Cf hm h1)) (H.lt (by exact rQ k7 hm)) hl (h i (j-1) (by exact Ce k7 h1 q2) (by exact Cd h1))
 ·exact h i j k7 (by exact vn hj q)
theorem other (T:pD n lt) (H:Pm n p) {i j:Nat}(hi:i<n) (hj:j<n) (cy:i≠j) (h:lt (p.getD i 0) (p.getD j 0)=false):lt (p.getD j 0) (p.getD i 0)=true:=by
 rcases T.Mj _ _ (H.lt hi) (H.lt hj) (fun e=>cy (H.inj hi hj e)) with k|k
 ·rw [h] at k;cases k
 ·exact k
theorem yH (T:pD n lt) (H:Pm n p) {Q:Nat→Prop}:∀ (f m:Nat),1≤m→m+f≤n→xE lt p m→(∀ m',m≤m'→m'≤m+f→xE lt p m'→(m'=m+f∨lt (p.getD m' 0) (p.getD (m'-1) 0)=true)→Q m')→nq n lt Q (kas_asc p f m):=fun f=>by
 induction f with
 | zero =>
  exact fun m h1 h2 h3 h4=>h4 m (QV _) (QV _) h3 (.inl rfl)
 | succ f bA =>
  intro m h1 h2 h3 h4
  refine ⟨H.lt (by exact mN h2),H.lt (by exact yJ h1 h2),H.ne (by exact mN h2) (by exact yJ h1 h2) (by exact Cc h1),?_⟩
  cases hc:lt (p.getD m 0) (p.getD (m-1) 0) with
  | true=>exact h4 m (QV _) (by exact @Cb _ _) h3 (.inr hc)
  | false =>
   refine bA (m+1) (by exact (dW (ag (aq (ae 1) aa) (aq (ae 1) (ak aa (ae 1))))) h1) (by exact A2 h2) (h3.snoc T H (by exact mN h2) h1 (other T H (by exact mN h2) (by exact yJ h1 h2) (by exact Cc h1) hc)) fun m' a b c d=>h4 m' (by exact yP a) (by exact Ca b) c (d.imp (fun e=>by exact (dC (ag (aH aa (ak (ak aj (ae 1)) az)) (aH aa (ak aj (ak az (ae 1)))))) e) id)
theorem A0 (T:pD n lt) (H:Pm n p) {Q:Array Nat×Nat×Nat→Prop}:∀ (f m:Nat),2≤m→m+f≤n→IX lt p m→(∀ m',m≤m'→m'≤m+f→IX lt p m'→Q (p,m',0))→nq n lt Q (kas_desc f p m 0):=fun f=>by
 induction f with
 | zero =>
  exact fun m h1 h2 h3 h4=>h4 m (QV _) (QV _) h3
 | succ f bA =>
  intro m h1 h2 h3 h4
  refine ⟨H.lt (by exact mN h2),H.lt (by exact rP h1 h2),H.ne (by exact mN h2) (by exact rP h1 h2) (by exact B9 h1),?_⟩
  cases hc:lt (p.getD m 0) (p.getD (m-1) 0) with
  | true =>
   refine bA (m+1) (by exact (dW (ag (aq (ae 2) aa) (aq (ae 2) (ak aa (ae 1))))) h1) (by exact A2 h2) (h3.snoc T H (by exact mN h2) (by exact (dW (ag (aq (ae 2) aa) (aq (ae 1) aa))) h1) hc) fun m' a b c=>h4 m' (by exact yP a) (by exact Ca b) c
  | false =>
   refine ⟨H.lt (by exact rP h1 h2),H.lt (by exact mN h2),H.ne (by exact rP h1 h2) (by exact mN h2) (by exact (Lq 1 0 [b9 aa (ae 1)] (ag (aq (ae 2) aa) (bI (aH aj aa)))) h1),?_⟩
   rw [other T H (by exact mN h2) (by exact rP h1 h2) (by exact B9 h1) hc]
   exact h4 m (QV _) (by exact @Cb _ _) h3
theorem vc (H:Pm n p) {m:Nat}(hm:m≤n) {i:Nat}(hi:i<m):(Vf p 0 m).getD i 0=p.getD (m-1-i) 0:=by
 have hs:=H.size
 refine getD_some ?_
 unfold Vf
 rw [getElem?_mirror_all (by exact (dC (ag (aq aa az) (ag (aH aj az) (aq aa aj)))) hm hs),if_pos ⟨RC _,hi⟩,Sk]
 exact H.get (by exact (Lq 4 0 [b9 aa (ae 1),b9 cM aj] (ag (aq aa az) (ag (aD aj aa) (ag (aH a7 az) (aD gh az))))) hm hi hs)
theorem Pm.rev (H:Pm n p) (i j:Nat):Pm n (Vf p i j):=H.vh (mirror_perm _ _ _ _)
theorem yG (T:pD n lt) (H:Pm n p) (hn:1≤n) {Q:Nat×Array Nat→Prop}(hQ:∀ m p',1≤m→m≤n→Pm n p'→xE lt p' m→Q (m,p')):nq n lt Q (kas_count n p):=by
 unfold kas_count
 refine nq.bind (yH T H (n-1) 1 (QV _) (by exact (Lq 1 0 [b9 aa (ae 1)] (ag (aq (ae 1) aa) (aq (ak (ae 1) aj) aa))) hn) (fun i j a b=>absurd b (US.mpr (Q8 (RC _) a))) fun m a b c d=>?_)
 have hb:m≤n:=(Lq 2 0 [b9 aj (ae 1)] (ag (aq (ae 1) aj) (ag (aq aa (ak (ae 1) az)) (aq aa aj)))) hn b
 have hs:=RF (Nat.sub_lt a Nat.one_pos) hb
 by_cases e1:m=n
 ·rw [if_pos (beq_iff_eq.mpr e1)]
  exact hQ m p a (by exact yK e1) H c
 ·rw [if_neg (fun h=>e1 (beq_iff_eq.mp h))]
  by_cases e2:m > 1
  ·rw [if_pos e2]
   refine ⟨H.lt (by exact B8 hn),H.lt hs,H.ne (by exact B8 hn) hs (by exact (Lq 1 0 [b9 aa (ae 1)] (ag (aD (ae 1) aa) (bI (aH (ae 0) aj)))) e2),?_⟩
   rw [c 0 (m-1) (by exact (Lq 1 0 [b9 aa (ae 1)] (ag (aD (ae 1) aa) (aD (ae 0) aj))) e2) (by exact (Lq 1 0 [b9 aa (ae 1)] (ag (aD (ae 1) aa) (aD aj aa))) e2)]
   exact hQ m p a hb H c
  ·rw [if_neg e2]
   have e3:m=1:=by exact (dW (ag (aq (ae 1) aa) (ag (bI (aD (ae 1) aa)) (aH aa (ae 1))))) a e2
   subst e3
   have hd:lt (p.getD 1 0) (p.getD 0 0)=true:=d.elim (fun h=>absurd ((Lq 1 0 [b9 aa (ae 1)] (ag (aq (ae 1) aa) (ag (aH (ae 1) (ak (ae 1) aj)) (aH (ae 1) aa)))) hn h) e1) id
   unfold kas_descPart
   refine nq.bind (A0 T H (n-(1+1)) (1+1) (QV _) (by exact (Lq 1 0 [b9 aa (ak (ae 1) (ae 1))] (ag (aq (ae 1) aa) (ag (bI (aH (ae 1) aa)) (aq (ak (ak (ae 1) (ae 1)) aj) aa)))) hn e1) (fun i j a b=>?_) fun m a b c=>?_)
   ·have:i=0:=by exact (cS (ag (aD aa aj) (ag (aD aj (ak (ae 1) (ae 1))) (aH aa (ae 0))))) a b
    have:j=1:=by exact (cS (ag (aD aj aa) (ag (aD aa (ak (ae 1) (ae 1))) (ag (aH aj (ae 0)) (aH aa (ae 1)))))) a b this
    subst i j;exact hd
   ·show nq n lt Q (if 0 > 0 then _ else kas_tail3 m n p)
    rw [if_neg @Gy]
    unfold kas_tail3
    have hA:xE lt (Vf p 0 m) m:=fun i j k7 hj=>by
     rw [vc H (by exact B7 hn e1 b) (by exact rQ k7 hj),vc H (by exact B7 hn e1 b) hj]
     exact c _ _ (by exact (Lq 3 0 [b9 aa (ae 1),b9 a7 aj,b9 a7 az] (ag (aD az aj) (ag (aD aj aa) (aD cM gh)))) k7 hj) (by exact (Lq 3 0 [b9 aa (ae 1),b9 a7 aj] (ag (aD aj az) (ag (aD az aa) (aD cM aa)))) k7 hj)
    exact nq.bind (yH T (H.rev 0 m) (n-m) m (by exact (dW (ag (aq (ak (ae 1) (ae 1)) aa) (aq (ae 1) aa))) a) (by exact (Lq 2 0 [b9 aj aa,b9 aj (ak (ae 1) (ae 1))] (ag (aq (ae 1) aj) (ag (bI (aH (ae 1) aj)) (ag (aq aa (ak (ak (ae 1) (ae 1)) a7)) (aq (ak aa az) aj))))) hn e1 b) hA fun m' a' b' c' _=>hQ m' _ (by exact (cS (ag (aq (ak (ae 1) (ae 1)) aj) (ag (aq aj aa) (aq (ae 1) aa)))) a a') (by omega) (H.rev 0 m) c')
theorem yF (T:pD n lt) (H:Pm n p) {k:Nat}(hk:k<n) (hA:xE lt p k) {Q:Nat→Prop}(hQ:∀ l,l≤k→(∀ i,i<l→lt (p.getD i 0) (p.getD k 0)=true)→(∀ i,l≤i→i<k→lt (p.getD k 0) (p.getD i 0)=true)→Q l) :
  ∀ (f l r:Nat),l≤r→r≤k→r-l≤f→(∀ i,i<l→lt (p.getD i 0) (p.getD k 0)=true)→(∀ i,r≤i→i<k→lt (p.getD k 0) (p.getD i 0)=true)→nq n lt Q (kas_place p k f l r):=fun f=>by
 induction f with
 | zero =>
  exact fun l r h1 h2 h3 h4 h5=>hQ l (by exact Cm h1 h2) h4 fun i a b=>h5 i (by exact Ck h1 h3 a) b
 | succ f bA =>
  intro l r h1 h2 h3 h4 h5
  unfold kas_place
  by_cases e:l ≥ r
  ·rw [if_pos e]
   exact hQ l (by exact (dC (ag (aq aa az) (ag (aq az aj) (ag (aq az aa) (aq aa aj))))) h1 h2 e) h4 fun i a b=>h5 i (by exact (dC (ag (aq az aa) (ag (aq aa az) (ag (aq az aj) (aq aa aj))))) h1 e a) b
  ·rw [if_neg e]
   refine ⟨H.lt hk,H.lt (by exact vl hk h2 e),H.ne hk (by exact vl hk h2 e) (by exact B6 h2 e),?_⟩
   cases hc:lt (p.getD k 0) (p.getD ((l+r) / 2) 0) with
   | true =>
    refine bA l ((l+r) / 2) (by exact (Lq 2 0 [fO (ak aa aj) 2] (ag (bI (aq aj aa)) (aq aa az))) e) (by exact (Lq 3 0 [fO (ak aa aj) 2] (ag (aq aj az) (ag (bI (aq aj aa)) (aq a7 az)))) h2 e) (by exact (Lq 3 0 [fO (ak aa aj) 2,b9 a7 aa,b9 aj aa] (ag (aq oP (ak az (ae 1))) (ag (bI (aq aj aa)) (aq gh az)))) h3 e) h4 fun i a b=>?_
    by_cases q:i=(l+r) / 2
    ·subst q;exact hc
    ·exact T.tr _ _ _ (H.lt hk) (H.lt (by exact (Lq 5 0 [fO (ak aa aj) 2] (ag (aD a7 az) (ag (aq gh cM) (ag (aD cM a7) (aD gh az))))) hk a b)) (H.lt (by exact (dC (ag (aD az aj) (ag (aD aa az) (aD aa aj)))) hk b)) hc (hA _ _ (by exact Ci a q) b)
   | false =>
    refine bA ((l+r) / 2+1) r (by exact (Lq 2 0 [fO (ak aa aj) 2] (ag (bI (aq aj aa)) (aq (ak az (ae 1)) aj))) e) (by exact Cp h2) (by exact (Lq 3 0 [fO (ak aj aa) 2,b9 aa (ak a7 (ae 1)),b9 aa aj] (ag (aq oP (ak az (ae 1))) (ag (bI (aq aa aj)) (aq gh az)))) h3 e) (fun i a=>?_) h5
    have hm:=other T H hk (by exact vl hk h2 e) (by exact B6 h2 e) hc
    by_cases q:i=(l+r) / 2
    ·subst q;exact hm
    ·exact T.tr _ _ _ (H.lt (by exact (Lq 5 0 [fO (ak cM a7) 2] (ag (aD az aj) (ag (aq a7 az) (ag (bI (aq a7 cM)) (ag (aD aa (ak gh (ae 1))) (aD aa aj)))))) hk h2 e a)) (H.lt (by exact vl hk h2 e)) (H.lt hk) (hA _ _ (by exact Cj a q) (by exact (Lq 3 0 [fO (ak aa aj) 2] (ag (aq aj az) (ag (bI (aq aj aa)) (aD a7 az)))) h2 e)) hm
theorem vZ (H:Pm n p) {k l:Nat}(hk:k<n) (hl:l≤k) {i:Nat}(hi:i<n):(bubble p k (k-l)).getD i 0=if i=l then p.getD k 0 else if l<i∧i≤k then p.getD (i-1) 0 else p.getD i 0:=by
 have hs:=H.size
 refine getD_some ?_
 rw [getElem?_bubble (by exact ju hk hs) (k-l) (by exact (Lq 2 0 [b9 aa aj] (ag (aq aj aa) (aq az aa))) hl)]
 have e:k-(k-l)=l:=by exact (Lq 2 0 [b9 aa aj,b9 aa az] (ag (aq aj aa) (aH a7 aj))) hl
 rw [e]
 repeat' split
 ·exact H.get hk
 ·exact H.get (by exact (Lq 5 0 [b9 aa (ae 1),b9 a7 cM,b9 a7 oP] (ag (aD aa aj) (ag (aH az aj) (ag (aH BM cM) (ag (dB (aD cM aa) (aq aa a7)) (aD gh aj)))))) hi hs e (by assumption))
 ·exact H.get hi
theorem DO (T:pD n lt) {Q:Array Nat→Prop}(hQ:∀ p,Pm n p→xE lt p n→Q p):∀ (f k:Nat) (p:Array Nat),Pm n p→k+f=n→xE lt p k→nq n lt Q (kas_bin f p k):=fun f=>by
 induction f with
 | zero =>
  exact fun k p H h hA=>hQ p H (by
  have:k=n:=by exact (cS (ag (aH (ak aa (ae 0)) aj) (aH aa aj))) h
  subst this;exact hA)
 | succ f bA =>
  intro k p H h hA
  refine nq.bind (yF T H (by exact yI h) hA (fun l h1 h2 h3=>?_) k 0 k (by exact (dC (ag (aH (ak aa (ak aj (ae 1))) az) (aq (ae 0) aa))) h) (QV _) (by exact (Lq 3 0 [b9 aa (ae 0)] (ag (aH (ak aa (ak aj (ae 1))) az) (aq a7 aa))) h) (fun i a=>absurd a (TA _)) fun i a b=>absurd b (US.mpr a))
  refine bA (k+1) _ (H.vh (bubble_perm _ _ _)) (by exact (dC (ag (aH (ak aa (ak aj (ae 1))) az) (aH (ak (ak aa (ae 1)) aj) az))) h) fun i j k7 hj=>?_
  rw [vZ H (by exact yI h) h1 (by exact (xD (ag (aH (ak az (ak a7 (ae 1))) aj) (ag (aD aa cM) (ag (aD cM (ak az (ae 1))) (aD aa aj))))) h k7 hj),vZ H (by exact yI h) h1 (by exact (ji (ag (aH (ak az (ak a7 (ae 1))) aj) (ag (aD aa (ak az (ae 1))) (aD aa aj)))) h hj)]
  by_cases a1:i=l
  ·rw [if_pos a1,if_neg (by exact (dC (ag (aD az aa) (ag (aH az aj) (bI (aH aa aj))))) k7 a1),if_pos (by exact (Lq 6 0 [] (ag (aH (ak az (ak a7 (ae 1))) cM) (ag (aD gh aj) (ag (aD aj (ak az (ae 1))) (ag (aH gh aa) (dB (aD aa aj) (aq aj az))))))) h k7 hj a1)]
   exact h3 _ (by exact (Lq 3 0 [b9 aj (ae 1)] (ag (aD az aj) (ag (aH az aa) (aq aa a7)))) k7 a1) (by exact (Lq 6 0 [b9 aa (ae 1)] (ag (aH (ak aj (ak az (ae 1))) a7) (ag (aD cM aa) (ag (aD aa (ak aj (ae 1))) (ag (aH cM gh) (aD oP aj)))))) h k7 hj a1)
  ·rw [if_neg a1]
   by_cases a2:j=l
   ·rw [if_pos a2,if_neg (by exact (ji (ag (aD aj a7) (ag (aH a7 aa) (bI (dB (aD aa aj) (aq aj az)))))) k7 a2)]
    exact h2 _ (by exact (dC (ag (aD aa az) (ag (aH az aj) (aD aa aj)))) k7 a2)
   ·rw [if_neg a2]
    repeat' split
    all_goals exact hA _ _ (by (first|exact (Lq 4 0 [b9 aa (ae 1),b9 aj (ae 1)] (ag (aD aa aj) (ag (dB (aD az aa) (aq aa a7)) (aD cM gh)))) k7 (by assumption)|exact (Lq 4 0 [b9 aa (ae 1)] (ag (aD aa aj) (ag (dB (aD az aa) (aq aa a7)) (aD cM aj)))) k7 (by assumption)|exact (Lq 6 0 [b9 aj (ae 1)] (ag (aH (ak az (ak a7 (ae 1))) cM) (ag (aD aa aj) (ag (aD aj (ak az (ae 1))) (ag (bI (aH aa gh)) (ag (bI (aH aj gh)) (ag (bI (dB (aD gh aa) (aq aa az))) (ag (dB (aD gh aj) (aq aj az)) (aD aa oP))))))))) h k7 hj a1 a2 (by assumption) (by assumption)|exact Cq k7)) (by (first|exact (Lq 5 0 [b9 aa (ae 1)] (ag (aH (ak aj (ak az (ae 1))) a7) (ag (aD cM aa) (ag (aD aa (ak aj (ae 1))) (aD gh aj))))) h k7 hj|exact (Lq 6 0 [] (ag (aH (ak aj (ak az (ae 1))) a7) (ag (aq cM aj) (ag (aD gh aa) (ag (aD aa (ak aj (ae 1))) (ag (dB (aD cM gh) (aq gh aj)) (ag (bI (dB (aD cM aa) (aq aa aj))) (aD aa aj)))))))) h h1 k7 hj (by assumption) (by assumption)|exact (Lq 6 0 [] (ag (aH (ak aj (ak az (ae 1))) a7) (ag (aq cM aj) (ag (aD gh aa) (ag (aD aa (ak aj (ae 1))) (ag (bI (aH aa cM)) (ag (bI (dB (aD cM gh) (aq gh aj))) (ag (bI (dB (aD cM aa) (aq aa aj))) (aD aa aj))))))))) h h1 k7 hj a2 (by assumption) (by assumption)))
theorem AZ (T:pD n lt) (hn:1≤n) {Q:Array Nat→Prop}(hQ:∀ p,Pm n p→xE lt p n→Q p):nq n lt Q (Vo n):=by
 unfold Vo
 refine nq.bind (yG T (Pm.start n) hn fun m p' a b H c=>?_)
 show nq n lt Q (if m<n then kas_bin (n-max m 1) p' (max m 1) else .ret p')
 have e:max m 1=m:=by exact (Lq 1 0 [oQ aa (ae 1)] (ag (aq (ae 1) aa) (aH aj aa))) a
 rw [e]
 by_cases q:m<n
 ·rw [if_pos q]
  exact DO T hQ (n-m) m p' H (by exact (Lq 2 0 [b9 aj aa,oQ aa (ae 1)] (ag (aH a7 aa) (ag (aD aa aj) (aH (ak aa az) aj)))) e q) c
 ·rw [if_neg q]
  have e:m=n:=by exact (Lq 2 0 [oQ aa (ae 1)] (ag (aq aa aj) (ag (aH az aa) (ag (bI (aD aa aj)) (aH aa aj))))) b e q
  subst e
  exact hQ p' H c
end
section
variable {B:QL}{V:VI}{A:QE}{f:FD}{g g':GM}{o:Qy→List Qt}{ρ:Rw}{b b':Array UInt8}{s s':Qs}
theorem FR.LM {a:Qt}{ob:R3}(F:FR B V A f g o ρ b s) (U:dh B V A f g o a) (Em:s.heap.get? a=some ob):FR B V A f (GM.add g a ob) o ρ b s:=by
 have iu:=GM.iR (g:=g) (a:=a) (ob:=ob) (.inl U.g)
 have lD:∀ c,c≠a→GM.add g a ob c=g c:=fun c hc=>if_neg hc
 refine { F with bf:=fun c x q=>?_,lE:=fun c h=>?_,f9:=fun c h=>?_,vars:=fun y e h=>?_ }
 ·by_cases e:c=a
  ·subst e;cases ig GM.b7 q;exact Em
  ·rw [lD c e] at q;exact F.bf c x q
 ·rw [lD c fun z=>U.fr (z▸h)];exact F.lE c h
 ·rw [lD c fun z=>U.qA (z▸h)];exact F.f9 c h
 ·obtain ⟨u,k1,k2⟩:=F.vars y e h
  exact ⟨u,k1,k2.mono iu fun _ _ _ q=>q⟩
theorem FR.EH {h':QL}{tk:Nat}{dr:S6}{a:Qt}{ob:R3}(F:FR B V A f g o ρ b s) (hn:s.heap.get? a=none) (k:∀ c x,c≠f.env.locals→s.heap.get? c=some x→h'.get? c=some x)
  (hL:∀ m,s.heap.Ns f.env.locals m→h'.Ns f.env.locals m) (ha:h'.get? a=some ob):FR B V A f (GM.add g a ob) o ρ b ⟨h',s.gens,dr,tk,s.os⟩∧bK V A f g o s (GM.add g a ob) o ⟨h',s.gens,dr,tk,s.os⟩:=by
 have vL:∀ c∈V.fp,c≠f.env.locals:=fun c h z=>F.uu _ F.ib (z▸h)
 obtain ⟨aA,aP⟩:=F.rt (h':=h') (tk:=tk) (dr:=dr) (b':=b) (fun c x _ z e=>k c x z e) hL (fun c hc=>by
  obtain ⟨x,e⟩:=V.lfp _ _ F.view c (V.sub _ hc)
  exact ⟨x,k c x (vL c (V.sub _ hc)) e⟩) (V.fj _ _ _ F.view fun c hc x e=>k c x (vL c hc) e)
 have U:=dh.fresh F hn
 refine ⟨aA.LM U ha,⟨⟨aP.kept,aP.iW,fun c x e=>GM.iR (.inl U.g) c x e,fun c e e'=>?_,aP.on,aP.os⟩,aP.tk,aP.vk⟩⟩
 by_cases q:c=a
 ·subst q;exact .inr hn
 ·exact absurd e (by unfold GM.add at e';rw [if_neg q] at e';exact e')
end
noncomputable def Hs (x y:Row):Bool:=!decide (y.1<x.1)
noncomputable def fg (rs:List Row):List Row:=rs.mergeSort Hs
theorem Ko {a b c:List Nat}(h1:¬ b<a) (h2:¬ c<b):¬ c<a:=fun h=>by
 rcases strKind.negTrans c b a (decide_eq_true h) with k|k
 ·exact h2 (of_decide_eq_true k)
 ·exact h1 (of_decide_eq_true k)
theorem dX (rs:List Row):(fg rs).Perm rs:=List.mergeSort_perm ..
theorem iF (rs:List Row):(fg rs).Pairwise (fun x y=>¬ y.1<x.1):=by
 have h:=List.pairwise_mergeSort (le:=Hs) (fun a b c h1 h2=>by
  unfold Hs at *
  simp only [S0,decide_eq_false_iff_not] at *
  exact Ko h1 h2) (fun a b=>by
  unfold Hs
  by_cases q:b.1<a.1
  ·have:¬ a.1<b.1:=fun z=>absurd (Vp q z) (List.lt_irrefl _)
   simp [this]
  ·simp [q]) rs
 exact h.imp fun h=>by
  unfold Hs at h
  simpa using h
theorem Ba {xs:List Row}(hn:(xs.map (·.1)).Nodup) {a b:Row}(ha:a∈xs) (hb:b∈xs) (e:a.1=b.1):a=b:=by
 obtain ⟨i,hi,rfl⟩:=Sb ha
 obtain ⟨j,hj,rfl⟩:=Sb hb
 have h1:(xs.map (·.1))[i]'(by simpa using hi)=(xs.map (·.1))[j]'(by simpa using hj):=by simpa using e
 have ij:=(List.getElem_inj hn).mp h1
 subst ij;rfl
theorem mr {xs ys:List Row}(hp:xs.Perm ys) (hx:xs.Pairwise (fun x y=>¬ y.1<x.1)) (hy:ys.Pairwise (fun x y=>¬ y.1<x.1)) (hn:(xs.map (·.1)).Nodup):xs=ys:=by
 refine hp.eq_of_pairwise (le:=fun x y=>¬ y.1<x.1) (fun a b ha hb h1 h2=>?_) hx hy
 have e:a.1=b.1:=strKind.total _ _ (decide_eq_false h2) (decide_eq_false h1)
 exact Ba hn ha (hp.mem_iff.mpr hb) e
section
variable {prog:Rn}{w:RE}{A:QE}{E:Qr→Qs→Prop}{s:Qs}
theorem wD (vs:List Qr):(arrOf (SortSt.mk' general' (vs.toArray.zip vs.toArray) #[] 7 none)).map (·.2)=vs.toArray:=by
 have h:arrOf (SortSt.mk' general' (vs.toArray.zip vs.toArray) #[] 7 none)=vs.toArray.zip vs.toArray:=rfl
 rw [h]
 apply Uk.mp
 rw [Array.toList_map,ksk_zip]
 exact List.map_snd_zip (QV _)
theorem qr {l:Qt}{vs:List Qr}{Q:Qr→Qs→Prop}(hl:s.heap.IsList l vs.toArray) (h2:vs.length<2)
  (h:∀ h' e,(∀ a ob,s.heap.get? a=some ob→h'.get? a=some ob)→h'.get? (s.heap.objs.size+1)=some (seqObj "list" vs.toArray e)→Q (.ref (s.heap.objs.size+1)) { s with heap:=h' }):QF (QJ prog w) A (call (.builtin "sorted") [.ref l]) Q E s:=by
 refine Calls.call_function_entry kind_sorted Vg Vh (Vi _) ?_
 unfold Builtin.«sorted»
 refine Qq (m:=checkCount "sorted" 1 1 _) (Qv ?_)
 refine Qq (collect_list hl ?_ (by rw [Rq];exact Qx (R9 h2) av))
 refine Qq (T9 ?_ (by rw [Rq];exact Qx (R9 h2) av))
 have hsz:((s.heap.push (seqObj "list" #[] 0)).update s.heap.objs.size (R3.mapSeq (·++vs.toArray))).objs.size=s.heap.objs.size+1:=by
  rw [QL.size_update,UT]
 have Bg:(((s.heap.push (seqObj "list" #[] 0)).update s.heap.objs.size (R3.mapSeq (·++vs.toArray))).push (seqObj "list" vs.toArray 0)).get? (s.heap.objs.size+1)=some (seqObj "list" vs.toArray 0):=by
  rw [← hsz];exact QN _ rfl
 obtain ⟨e,he⟩:=sortedAll_at s.heap vs vs.toArray
 have fin:=h _ e (fun _ _=>sortedAll_old) he
 have hc:vs.toArray.size<2:=by rw [QH];exact h2
 show QF _ _ _ _ _ { s with heap:=((s.heap.push (seqObj "list" #[] 0)).update s.heap.objs.size (R3.mapSeq (·++vs.toArray))).push (seqObj "list" vs.toArray 0) }
 rw [hsz]
 generalize hH:((s.heap.push (seqObj "list" #[] 0)).update s.heap.objs.size (R3.mapSeq (·++vs.toArray))).push (seqObj "list" vs.toArray 0)=H at *
 have LQ:Q (.ref (s.heap.objs.size+1)) { s with heap:=sortedHeap H (s.heap.objs.size+1) vs vs.toArray }:=by subst hH;exact fin
 generalize s.heap.objs.size+1=a at *
 refine Qq (Q0 (Rj UU ⟨_,Bg,rfl⟩ UK ?body (UW _)))
 rw [list_sort_plain]
 have ha:a<H.objs.size:=Rt Bg
 refine Qq (listItems_at Bg rfl ?_)
 refine Qq (U6 Bg rfl ?_ (by rw [Rq];exact Qx (R9 hc) av) (by rw [Rq];exact RC _))
 obtain ⟨e1,Ft⟩:∃ e1,(H.update a (R3.mapSeq fun _=>#[])).get? a=some (seqObj "list" #[] e1):=⟨_,get?_update_seq Bg (fun _=>#[])⟩
 refine Qq (seqEpoch_at Ft rfl ?_)
 refine Qq (TZ ?_ (by show vs.length≤_;rw [Rq];exact Qx (R9 h2) av))
 refine Qq (T9 ?_ (RC _))
 refine Q0 ?_
 have MV:(((H.update a (R3.mapSeq fun _=>#[])).push (seqObj "tuple" vs.toArray 0)).push (seqObj "list" #[] 0)).get? a=some (seqObj "list" #[] e1):=by
  rw [QL.get?_push_ne _ _ _ (by rw [UT,QL.size_update];exact RO (Sr ha)),QL.get?_push_ne _ _ _ (by rw [QL.size_update];exact RO ha)]
  exact Ft
 show QF (QJ prog w) _ _ _ _ { s with heap:=((H.update a (R3.mapSeq fun _=>#[])).push (seqObj "tuple" vs.toArray 0)).push (seqObj "list" #[] 0) }
 dsimp only
 rw [if_pos hc,if_pos hc]
 refine Qq (Qv ?_)
 rw [StateT.run_pure]
 refine Qq (Qv ?_)
 dsimp only
 refine Qq (seqEpoch_at MV rfl ?_)
 have e2:=wD vs
 rw [e2]
 refine Qq (U6 MV rfl ?_ (RC _) (by show vs.toArray.size≤_;rw [Rq];exact (dW (ag (aD aa (ae 2)) (aq aa (ak (ae 16777216) (ae 1))))) hc))
 simp only [bne_self_eq_false,S8,if_false]
 exact Qv ⟨_,rfl,Qv ⟨_,rfl,LQ⟩⟩
end
theorem rE:∀ {rs:List Row},rs.length<2→fg rs=rs
 | [],_=>(dX []).eq_nil
 | [x],_=>List.perm_singleton.mp (dX [x])
 | _::_::r,h=>absurd h (US.mpr (Nat.le_add_left 2 r.length))
structure ta (h:QL) (v:Qr) (r:Row):Prop where
 at_:∃ a o t u k,v=.ref a∧h.get? a=some o∧o.cls=.type "tuple"∧o.data=.seq #[.str (bR r.1) t,.int (r.2:Int) u] k
inductive dw (h:QL):List Qr→List Row→Prop
 | nil:dw h [] []
 | cons {v:Qr}{vs:List Qr}{r:Row}{rs:List Row}:ta h v r→dw h vs rs→dw h (v::vs) (r::rs)
theorem dw.of {g:GM}{vw:Nat→Option Qt}{h:QL}(hg:∀ a ob,g a=some ob→h.get? a=some ob) {vs:List Qr}{rs:List Row}:aB g vw vs (rs.map a8)→dw h vs rs:=by
 induction rs generalizing vs with
 | nil=>intro r;obtain rfl:=aB.u0 r;exact .nil
 | cons r rs ih =>
  intro k
  obtain ⟨_,_,rfl,k1,k2⟩:=aB.jl k
  refine .cons ?_ (ih k2)
  obtain ⟨a,ob,vs,n,rfl,h1,h2,h3,k5⟩:=Rep.uZ k1
  obtain ⟨_,_,rfl,k3,k4⟩:=k5.JS
  obtain ⟨t,rfl⟩:=k3.j9
  obtain ⟨u,rfl⟩:=k4.bZ
  exact ⟨_,_,_,_,_,rfl,hg _ _ h1,h2,h3⟩
theorem ta.keep {h h':QL}{v:Qr}{r:Row}(x:ta h v r) (k:∀ a o,h.get? a=some o→(∃ xs n,o.data=.seq xs n)→h'.get? a=some o):ta h' v r:=by
 obtain ⟨a,o,t,u,m,e1,e2,e3,e4⟩:=x
 exact ⟨a,o,t,u,m,e1,k a o e2 ⟨_,_,e4⟩,e3,e4⟩
theorem dw.keep {h h':QL}(k:∀ a o,h.get? a=some o→(∃ xs n,o.data=.seq xs n)→h'.get? a=some o) {vs:List Qr}{rs:List Row}(H:dw h vs rs):dw h' vs rs:=by
 induction H with
 | nil=>exact .nil
 | cons x _ ih=>exact .cons (x.keep k) ih
theorem dw.length {h:QL}{vs:List Qr}{rs:List Row}(H:dw h vs rs):vs.length=rs.length:=by
 induction H with
 | nil=>rfl
 | cons _ _ ih=>exact congrArg (·+1) ih
theorem dw.get {h:QL}{vs:List Qr}{rs:List Row}(H:dw h vs rs):∀ {i:Nat},i<vs.length→ta h (vs.getD i .none) (rs.getD i ([],0)):=by
 induction H with
 | nil=>exact fun hi=>absurd hi (TA _)
 | cons x _ ih =>
  intro i hi
  cases i with
  | zero=>exact x
  | succ i=>exact ih (Nat.lt_of_succ_lt_succ hi)
theorem dw.wj {h:QL}{vs:List Qr}{rs:List Row}(H:dw h vs rs):∃ fs,KatTups h vs fs∧fs.length=vs.length∧∀ v∈fs,∃ x t,v=.str x t:=by
 induction H with
 | nil=>exact ⟨[],KatTups.nil,rfl,AA⟩
 | cons x _ ih =>
  obtain ⟨fs,h1,h2,h3⟩:=ih
  obtain ⟨⟨a,o,t,u,k,rfl,e2,e3,e4⟩⟩:=x
  exact ⟨_,KatTups.cons e2 e3 e4 rfl h1,by rw [QC,QC,h2],gU ⟨_,_,rfl⟩ h3⟩
noncomputable def C8 (rs:List Row) (i j:Nat):Bool:=decide ((rs.getD i ([],0)).1<(rs.getD j ([],0)).1)
theorem vx {rs:List Row}(hn:(rs.map (·.1)).Nodup) {i j:Nat}(hi:i<rs.length) (hj:j<rs.length) (cy:i≠j):(rs.getD i ([],0)).1≠(rs.getD j ([],0)).1:=fun e=>by
 have e1:rs.getD i ([],0)=rs[i]:=by simp [hi]
 have e2:rs.getD j ([],0)=rs[j]:=by simp [hj]
 rw [e1,e2] at e
 have h1:(rs.map (·.1))[i]'(by simpa using hi)=(rs.map (·.1))[j]'(by simpa using hj):=by simpa using e
 exact cy ((List.getElem_inj hn).mp h1)
theorem D9 {rs:List Row}(hn:(rs.map (·.1)).Nodup):pD rs.length (C8 rs) where
 Mj i j hi hj cy:=by
  unfold C8
  cases h1:decide ((rs.getD i ([],0)).1<(rs.getD j ([],0)).1) with
  | true=>exact .inl rfl
  | false =>
   cases h2:decide ((rs.getD j ([],0)).1<(rs.getD i ([],0)).1) with
   | true=>exact .inr rfl
   | false=>exact absurd (strKind.total _ _ h1 h2) (vx hn hi hj cy)
 tr i j k _ _ _ h1 h2:=by
  unfold C8 at *
  exact decide_eq_true (Vp (of_decide_eq_true h1) (of_decide_eq_true h2))
section
variable {prog:Rn}{w:RE}{A:QE}{s:Qs}
theorem Ad {vs:List Qr}{rs:List Row}(R:dw s.heap vs rs) (hn:(rs.map (·.1)).Nodup) {i j:Nat}{C:Bool→Qs→Prop}(hi:i<rs.length) (hj:j<rs.length) (cy:i≠j) (h:C (C8 rs i j) s):kas_ask prog w A (tuples' true) vs i j C s:=by
 have hl:=R.length
 obtain ⟨⟨a,o,t,u,k,e1,e2,e3,e4⟩⟩:=R.get (i:=i) (ju hi hl)
 obtain ⟨⟨a',o',t',u',k',PG,PF,Ql,PE⟩⟩:=R.get (i:=j) (ju hj hl)
 unfold kas_ask
 rw [e1,PG]
 refine kat_lt e2 e4 PF PE (kat_cons (eqBool_str ?_))
 have en:(bR (rs.getD i ([],0)).1==bR (rs.getD j ([],0)).1)=false:=beq_eq_false_iff_ne.mpr fun e=>vx hn hi hj cy (kR.mp e)
 rw [en]
 refine kat_no ?_
 show QF _ _ (oneLt' true _ _) _ _ _
 refine oneLt_str ?_
 show C (decide ((bR _).cps.toList<(bR _).cps.toList)) s
 exact h
end
theorem yx {rs:List Row}{p:Array Nat}(hn:(rs.map (·.1)).Nodup) (H:Pm rs.length p) (hA:xE (C8 rs) p rs.length):p.toList.map (fun i=>rs.getD i ([],0))=fg rs:=by
 have e:(range rs.length).map (fun i=>rs.getD i ([],0))=rs:=by
  refine SX (by simp) fun i h1 h2=>by simp [QI h2]
 have hp:(p.toList.map (fun i=>rs.getD i ([],0))).Perm rs:=by
  have:=H.perm.map (fun i=>rs.getD i ([],0))
  rwa [e] at this
 refine mr (hp.trans (dX rs).symm) ?_ (iF rs) ((hp.map (·.1)).nodup_iff.mpr hn)
 rw [TM,List.pairwise_iff_getElem]
 intro i j hi hj k7
 have hs:=H.size
 have Et:j<rs.length:=by have:p.toList.length=p.size:=rfl;exact (ji (ag (aD aa az) (ag (aH a7 aj) (ag (aH az a7) (aD aa aj))))) hj hs this
 have k:=hA i j k7 Et
 have e1:p.toList[i]=p.getD i 0:=by
  have:=H.get (show i<rs.length by exact rQ k7 Et)
  rw [← Rx] at this
  exact (g7 this).2
 have e2:p.toList[j]=p.getD j 0:=by
  have:=H.get Et
  rw [← Rx] at this
  exact (g7 this).2
 rw [e1,e2]
 unfold C8 at k
 intro z
 exact absurd (Vp (of_decide_eq_true k) z) (List.lt_irrefl _)
theorem aB.outs {g:GM}{vw:Nat→Option Qt}{vs:List Qr}{rs:List Row}(r:aB g vw vs (rs.map a8)):∀ {l:List Nat},(∀ i∈l,i<rs.length)→aB g vw (l.map fun i=>vs.getD i Qr.none) ((l.map fun i=>rs.getD i ([],0)).map a8):=by
 intro l
 induction l with
 | nil =>
  exact fun _=>.nil
 | cons i l bA =>
  intro h
  have hi:=h i QB
  refine .cons ?_ (bA fun j hj=>h j (QD _ hj))
  have e1:(rs.map a8)[i]?=some (a8 (rs.getD i ([],0))):=by rw [QU];simp [hi]
  obtain ⟨v,h1,h2⟩:=r.get e1
  have:vs.getD i Qr.none=v:=by rw [Qw,h1];rfl
  show Rep g vw (vs.getD i Qr.none) (a8 (rs.getD i ([],0)))
  rw [this];exact h2
section
variable {X:Cx}{n:Nat}{sc:QM}{ρ af ay:Rw}{b ao b₂:Array UInt8}
theorem SE.qt {np pos:Rd}{e:QR}{rs:List Row}(he:SE X n sc e ρ b (.list (rs.map a8)) af ao) (hn:(rs.map (·.1)).Nodup) (qQ:rs.length<64) (hk:autoParam (sc.names.lookup ("sorted":Qy)=some .globalImplicit) bG)
  (cv:autoParam (∀ env,QS [e] env=[(false,eval e env)]) cw):SE X n sc (.Call (.Name "sorted" np) [e] [] pos) ρ b (.list ((fg rs).map a8)) af ao :=
 SE.sU (T:="sorted") av he (fun A f g o s Q E v R F r q=>by
  obtain ⟨l,ob,vs,m,rfl,h1,h2,h3,rr⟩:=r.dp
  have hl:=F.bf _ _ h1
  have hI:s.heap.IsList l vs.toArray:=⟨ob,hl,h2,m,h3⟩
  have hlen:vs.length=rs.length:=by rw [rr.length,Qu]
  have none_of:∀ {D:Qt},s.heap.objs.size≤D→s.heap.get? D=Option.none:=fun h=>QL.get?_none_of_le h
  by_cases hs:vs.length<2
  ·refine qr hI hs fun h' e k hD=>?_
   obtain ⟨F',S'⟩:=F.fresh (tk:=s.toks) (dr:=s.drawn) k (none_of (Tv _)) hD
   have es:=rE (rs:=rs) ((cS (ag (aD aa (ae 64)) (ag (aH aj aa) (ag (aD aj (ae 2)) (aD aa (ae 2)))))) qQ hlen hs)
   exact q _ _ o _ F' S' (.list GM.b7 rfl rfl (by rw [es];exact rr.mono S'.gm))
  ·obtain ⟨news,N,gN,jb⟩:=nk X.B s.heap f.env.locals
   obtain ⟨mL,Fm⟩:=F.fr
   refine kat_sorted Fm N hI ((cS (ag (aD aj (ae 64)) (ag (aH aa aj) (ag (bI (aD aa (ae 2))) (aq (ae 2) aa))))) qQ hlen hs) ((cS (ag (aD aj (ae 64)) (ag (aH aa aj) (ag (bI (aD aa (ae 2))) (aD aa (ae 64)))))) qQ hlen hs) fun D e1 h' F1 N1 fE=>?_
   have hD:s.heap.get? D=Option.none:=by
    cases z:s.heap.get? D with
    | none=>rfl
    | some x =>
     have n0:=N1 _ QB
     exact absurd (fE _ (gN D x z n0.2.2 n0.2.1)) (TH _)
   have Hu:∀ a x,s.heap.get? a=some x→a≠f.env.locals→h'.get? a=some x:=fun a x z cy=>by
    cases zb:X.B.get? a with
    | some y =>
     have:=F.bC a y zb
     cases ig z this
     exact F1.keep a x zb
    | none=>exact N1.get (QD _ (gN a x z zb cy))
   have Kf:∀ a x,s.heap.get? a=some x→(∃ xs n,x.data=.seq xs n)→a≠f.env.locals:=fun a x z ⟨xs,k,hd⟩ w=>by
    subst w
    obtain ⟨_,ob,es,ep,e,oV,_⟩:=F.kE
    cases ig z e
    rw [hd] at oV;cases oV
   have RA:dw s.heap vs rs:=dw.of F.bf rr
   have NB:dw h' vs rs:=RA.keep fun a x z hd=>Hu a x z (Kf a x z hd)
   obtain ⟨fs,T1,T2,T3⟩:=NB.wj
   refine kat_kind (s:={ s with heap:=h' }) (T:=.type "str") T1 ((dC (ag (aD aj (ae 64)) (ag (aH az aj) (ag (bI (aD az (ae 2))) (ag (aH aa az) (aD (ae 0) aa)))))) qQ hlen hs T2) (fun v hv=>by
    obtain ⟨x,t,rfl⟩:=T3 v hv
    exact Looks.now) rfl ?_
   have Pc:nq vs.length (C8 rs) (fun p=>Pm rs.length p∧xE (C8 rs) p rs.length) (Vo vs.length):=by
    rw [hlen]
    exact AZ (D9 hn) ((dC (ag (aD aa (ae 64)) (ag (aH aj aa) (ag (bI (aD aj (ae 2))) (ag (aH az aj) (aq (ae 1) aa)))))) qQ hlen hs T2) fun p H hA=>⟨H,hA⟩
   refine nq.wp (s:={ s with heap:=h' }) (fun i j C hi hj cy h=>Ad (s:={ s with heap:=h' }) NB hn (Cg hlen T2 hi) (Cg hlen T2 hj) cy h) (fun p hp=>?_) Pc
   refine KasFin.intro (s:={ s with heap:=h' }) F1 N1 (.head fun p' KQ=>RO (fE p' KQ)) fun Iu c F2 N2=>?_
   have Pn:=N2.get QB
   have Hv:∀ a x,a≠f.env.locals→s.heap.get? a=some x→Iu.get? a=some x:=fun a x cy z=>by
    cases zb:X.B.get? a with
    | some y =>
     have:=F.bC a y zb
     cases ig z this
     exact F2.keep a x zb
    | none=>exact N2.get (QD _ (gN a x z zb cy))
   obtain ⟨F',S'⟩:=F.EH (h':=Iu) (tk:=s.toks) (dr:=s.drawn) hD (fun a x cy z=>Hv a x cy z) (fun m hm=>by
    have:=Ns.uniq hm Fm.ns
    subst this
    exact F2.ns) Pn
   refine q _ _ o _ F' S' (.list GM.b7 rfl rfl (by
    rw [← yx hn hp.1 hp.2]
    exact aB.outs (rr.mono S'.gm) fun i hi=>R8.mp (hp.1.perm.mem_iff.mp hi)))) hk av cv
end
noncomputable def xM (xs:Array Nat):Prop:=xs.toList.Pairwise (·<·)
theorem xM.get {xs:Array Nat}(h:xM xs) {i k:Nat}(hi:i<k) (hk:k<xs.size) (d:Nat):xs.getD i d<xs.getD k d:=by
 have h1:i<xs.size:=by exact rQ hi hk
 have:=List.pairwise_iff_getElem.mp h i k (by simpa using h1) (by simpa using hk) hi
 simpa [getD,h1,hk] using this
theorem Ab {xs:Array Nat}(h:xM xs) (j:Nat):∀ (f lo hi:Nat),lo≤hi→hi≤xs.size→hi-lo≤f→(∀ i,i<lo→xs.getD i j<j)→(∀ i,hi≤i→i<xs.size→j≤xs.getD i j) →
  QK.below.go xs j f lo hi≤xs.size∧(∀ i,i<QK.below.go xs j f lo hi→xs.getD i j<j)∧∀ i,QK.below.go xs j f lo hi≤i→i<xs.size→j≤xs.getD i j:=fun f=>by
 induction f with
 | zero =>
  intro lo hi h1 h2 h3 h4 h5
  exact ⟨by exact Cm h1 h2,h4,fun i a b=>h5 i (Ck h1 h3 a) b⟩
 | succ f bA =>
  intro lo hi h1 h2 h3 h4 h5
  unfold QK.below.go
  by_cases e:lo<hi
  ·rw [if_pos e]
   dsimp only
   by_cases c:xs.getD ((lo+hi) / 2) j<j
   ·rw [if_pos c]
    refine bA _ _ ((Lq 2 0 [fO (ak aa aj) 2] (ag (aD aa aj) (aq (ak az (ae 1)) aj))) e) h2 ((Lq 3 0 [fO (ak aj aa) 2,b9 aa (ak a7 (ae 1)),b9 aa aj] (ag (aq oP (ak az (ae 1))) (ag (aD aj aa) (aq gh az)))) h3 e) (fun i a=>?_) h5
    by_cases q:i=(lo+hi) / 2
    ·subst q;exact c
    ·exact Nat.lt_trans (h.get (k:=(lo+hi) / 2) (Cj a q) ((Lq 3 0 [fO (ak aa aj) 2] (ag (aq aj az) (ag (aD aa aj) (aD a7 az)))) h2 e) j) c
   ·rw [if_neg c]
    refine bA _ _ ((Lq 2 0 [fO (ak aa aj) 2] (ag (aD aa aj) (aq aa az))) e) ((Lq 3 0 [fO (ak aa aj) 2] (ag (aq aj az) (ag (aD aa aj) (aq a7 az)))) h2 e) ((Lq 3 0 [fO (ak aa aj) 2,b9 a7 aa,b9 aj aa] (ag (aq oP (ak az (ae 1))) (ag (aD aa aj) (aq gh az)))) h3 e) h4 fun i a b=>?_
    by_cases q:i=(lo+hi) / 2
    ·subst q;exact Ct c
    ·have:=h.get (i:=(lo+hi) / 2) (k:=i) (Ci a q) b j
     exact (dC (ag (bI (aD az aa)) (ag (aD az aj) (aq aa aj)))) c this
  ·rw [if_neg e]
   exact ⟨by exact (dC (ag (aq aa az) (ag (aq az aj) (ag (bI (aD aa az)) (aq aa aj))))) h1 h2 e,h4,fun i a b=>h5 i ((dC (ag (aq az aa) (ag (bI (aD az aa)) (ag (aq az aj) (aq aa aj))))) h1 e a) b⟩
theorem kz {xs:Array Nat}(h:xM xs) (j:Nat):QK.below xs j≤xs.size∧(∀ i,i<QK.below xs j→xs.getD i j<j)∧∀ i,QK.below xs j≤i→i<xs.size→j≤xs.getD i j:=by
 unfold QK.below
 exact Ab h j xs.size 0 xs.size (RC _) (QV _) (@Gz _) (fun i a=>by exact (dC (ag (aD az (ae 0)) (aD aa aj))) a) fun i a b=>by exact (ji (ag (aq az a7) (ag (aD a7 az) (aq aa aj)))) a b
theorem getD_mem {xs:Array Nat}{i d:Nat}(h:i<xs.size):xs.getD i d=xs.toList[i]'(by simpa using h):=by simp [getD,h]
theorem xM.insert {xs:Array Nat}(h:xM xs) {j:Nat}(hj:xs[QK.below xs j]?≠some j):xM (QK.insertAt xs (QK.below xs j) j):=by
 obtain ⟨h1,h2,h3⟩:=kz h j
 generalize QK.below xs j=p at *
 have low:∀ a∈xs.toList.take p,a<j:=fun a ha=>by
  obtain ⟨i,hi,rfl⟩:=Sb ha
  rw [SH] at hi
  have pf:i<p∧i<xs.toList.length:=by exact (Lq 3 0 [AF aj az] (ag (aD aa a7) (dB (aD aa aj) (aD aa az)))) hi
  rw [List.getElem_take]
  have:=h2 i pf.1
  rwa [getD_mem (by simpa using pf.2)] at this
 have high:∀ a∈xs.toList.drop p,j<a:=fun a ha=>by
  obtain ⟨i,hi,rfl⟩:=Sb ha
  rw [Sm] at hi
  rw [List.getElem_drop]
  have hs:xs.toList.length=xs.size:=rfl
  have hp:p<xs.size:=by exact (Lq 4 0 [b9 a7 aa] (ag (aq aa aj) (ag (aD az cM) (ag (aH a7 aj) (aD aa aj))))) h1 hi hs
  have k0:=h3 p (QV _) hp
  rw [getD_mem hp] at k0
  have k1:xs.toList[p]'(pa hs hp)≠j:=fun e=>hj (by rw [getElem?_pos xs p hp,← e];simp)
  by_cases q:i=0
  ·subst q;simp only [Nat.add_zero];exact (Lq 6 0 [] (ag (aH az a7) (ag (aD cM a7) (ag (aq aa aj) (ag (aD (ae 0) gh) (ag (bI (aH aj aa)) (aD aa aj))))))) hs hp k0 (by assumption) k1
  ·have k2:=List.pairwise_iff_getElem.mp h p (p+i) (pa hs hp) ((Lq 6 0 [b9 az aa] (ag (aD aj oP) (ag (aH az a7) (ag (aD aa a7) (ag (aq cM gh) (ag (bI (aH gh cM)) (ag (bI (aH aj (ae 0))) (aD (ak aa aj) az)))))))) hi hs hp k0 k1 q) ((dC (ag (aD aa az) (ag (bI (aH aj (ae 0))) (aD aa (ak aa aj))))) hp q)
   exact (Lq 8 0 [b9 cM gh] (ag (aD az a7) (ag (aD az IU) (ag (aH cM oP) (ag (aD gh oP) (ag (aq aa BM) (ag (bI (aH BM aa)) (ag (bI (aH az (ae 0))) (ag (aD BM aj) (aD aa aj)))))))))) (by assumption) hi hs hp k0 k1 q k2
 unfold xM
 rw [QK.toList_insertAt,List.pairwise_append]
 refine ⟨h.sublist (List.take_sublist _ _),TC.mpr ⟨high,h.sublist (List.drop_sublist _ _)⟩,fun a ha c hc=>?_⟩
 rcases bS hc with rfl|hc
 ·exact low a ha
 ·exact Nat.lt_trans (low a ha) (high c hc)
theorem wK (n:Nat):xM (Array.range n):=by
 unfold xM
 rw [Array.toList_range]
 exact List.pairwise_lt_range
structure pB (led:Bool) (t:QK):Prop where
 JZ:xM t.place
 Nz:t.dummies=#[]
 led:t.led=led
theorem pB.fresh (led:Bool):pB led (.fresh 0 0 led):=⟨.nil,rfl,rfl⟩
theorem pB.standIn {led:Bool}{t:QK}(h:pB led t) (n:Nat):pB led (t.standIn n):=⟨wK n,rfl,h.led⟩
theorem pB.orStandIn {led:Bool}{t:QK}(h:pB led t) (n:Nat):pB led (t.orStandIn n):=by
 unfold QK.orStandIn
 split
 ·exact h
 ·exact h.standIn n
theorem has_none (j:Nat):QK.has #[] j=false:=by
 unfold QK.has
 simp
theorem pH {led:Bool}{t:QK}(h:pB led t) (j:Nat):t.slot j≠.dummy∧(t.slot j=.empty→t.place[QK.below t.place j]?≠some j):=by
 unfold QK.slot
 rw [h.Nz,has_none]
 by_cases c:(t.place[QK.below t.place j]?==some j)=true
 ·rw [if_pos c]
  exact ⟨by simp,fun e=>by simp at e⟩
 ·rw [if_neg c]
  exact ⟨by simp,fun _ e=>c (by rw [e];exact beq_self_eq_true _)⟩
theorem px (t:QK) (p:QK.Probe):(t.advance p).dummy=p.dummy:=by
 unfold QK.advance
 split<;>rfl
theorem rK {led:Bool}{t:QK}(h:pB led t) (hashAt:Nat→Int) (hh:Int):∀ (f:Nat) (p:QK.Probe) (j:Nat) (d:Option Nat),p.dummy=none→QK.probe.go t hashAt hh f p=some (.empty j d)→d=none∧t.slot j=.empty:=fun f=>by
 induction f with
 | zero =>
  exact fun p j d _ e=>by simp [QK.probe.go] at e
 | succ f bA =>
  intro p j d hp e
  unfold QK.probe.go at e
  cases c:t.slot p.j with
  | empty =>
   rw [c] at e
   simp only [Option.some.injEq,QK.Met.empty.injEq] at e
   obtain ⟨rfl,rfl⟩:=e
   exact ⟨hp,c⟩
  | dummy=>exact absurd c (pH h _).1
  | live i =>
   rw [c] at e
   dsimp only at e
   split at e
   ·simp at e
   ·exact bA _ j d (by rw [px];exact hp) e
theorem pB.put {led:Bool}{t:QK}(h:pB led t) {j:Nat}(hj:t.slot j=.empty):pB led (t.put j).1:=by
 unfold QK.put
 refine ⟨h.JZ.insert ((pH h j).2 hj),?_,h.led⟩
 show (if QK.has t.dummies j=true then _ else t.dummies)=#[]
 rw [h.Nz,has_none];rfl
theorem pB.layNew {led:Bool}{t:QK}(h:pB led t) (es:Array (Int×Qr)) (hh:Int) (x:Qr):pB led (layNew t es hh x).2.1∧(PySem.layNew t es hh x).2.2.1=false:=by
 unfold PySem.layNew
 cases c:t.freeSlot hh with
 | none=>exact ⟨h.standIn _,rfl⟩
 | some r =>
  obtain ⟨slot,wd⟩:=r
  unfold QK.freeSlot at c
  have:wd=false∧t.slot slot=.empty:=by
   split at c
   ·rename_i j d e
    unfold QK.probe at e
    obtain ⟨rfl,h2⟩:=rK h _ _ _ _ _ _ (by rfl) e
    simp only [Option.getD_none,Option.isSome_none,Option.some.injEq,Prod.mk.injEq] at c
    obtain ⟨rfl,rfl⟩:=c
    exact ⟨rfl,h2⟩
   ·simp at c
  obtain ⟨rfl,h2⟩:=this
  dsimp only
  exact ⟨(h.put h2).orStandIn _,rfl⟩
theorem pB.relayAll {led:Bool}{t:QK}(h:pB led t) (es:Array (Int×Qr)) (wanted:Nat):pB led (relayAll t es wanted).2.1:=by
 unfold PySem.relayAll
 split
 ·rename_i t' order e
  dsimp only
  split
  ·unfold QK.relaid QK.laid at e
   cases c:QK.layClean (QK.sizeAbove wanted-1) (es.map (·.1)) with
   | none=>rw [c] at e;simp at e
   | some owner =>
    rw [c] at e
    simp only [Option.bind_eq_bind,Option.bind_some,Option.pure_def,Option.some.injEq,Prod.mk.injEq] at e
    obtain ⟨rfl,_⟩:=e
    refine ⟨?_,rfl,h.led⟩
    show (map (fun (x:Nat×Nat)=>x.1) (List.filterMap (fun j=>Option.map (fun x=>(j,x)) (owner.getD j none)) (range (QK.sizeAbove wanted-1+1)))).Pairwise (·<·)
    rw [TM]
    refine List.Pairwise.filterMap _ (R:=(·<·)) (S:=fun (x y:Nat×Nat)=>x.1<y.1) (fun a a' fE b hb b' FC=>?_) List.pairwise_lt_range
    simp only [Td] at hb FC
    obtain ⟨_,_,rfl⟩:=hb
    obtain ⟨_,_,rfl⟩:=FC
    exact fE
  ·exact h.standIn _
 ·exact h.standIn _
noncomputable def hY (w:RE):Bool:=w.params.followText "set-order"
noncomputable def xV:Qr→Int
 | .int i _=>i
 | _=>0
abbrev nH (es:Array (Int×Qr)) (ep:Nat) (t:QK):R3:={ cls:=.type "set",dict:=none,data:=.set es ep t,slots:=#[] }
structure kD (prog:Rn) (w:RE) (es:Array (Int×Qr)) (t:QK) (σ:List Int):Prop where
 el:ElemsOf (intKind prog w) es.toList
 vals:(es.toList.map fun e=>xV e.2).Perm σ
 xI:es.size<scanBound
 fits:t.fits es.size=true
 tok:pB (!hY w) t
noncomputable def kC (prog:Rn) (w:RE) (h:QL) (a:Qt) (σ:List Int):Prop:=∃ es ep t,h.get? a=some (nH es ep t)∧kD prog w es t σ
section
variable {prog:Rn}{w:RE}{A:QE}{E:Qr→Qs→Prop}{s:Qs}
theorem pU {k:Int}{v:Qr}(h:(intKind prog w).is k v=true):∃ t,v=.int k t:=Qr.isInt_shape h
theorem kD.isInt {es:Array (Int×Qr)} {t:QK}{σ:List Int}(D:kD prog w es t σ) {e:Int×Qr}(he:e∈es.toList):∃ k t,e.2=.int k t:=by
 obtain ⟨⟨k,h1,_⟩,_⟩:=D.el e he
 obtain ⟨t,h⟩:=pU h1
 exact ⟨k,t,h⟩
theorem kD.size {es:Array (Int×Qr)} {t:QK}{σ:List Int}(D:kD prog w es t σ):es.size=σ.length:=by
 have:=D.vals.length_eq
 simpa using this
theorem kD.mem {es:Array (Int×Qr)} {t:QK}{σ:List Int}(D:kD prog w es t σ) (k:Int):(es.toList.findIdx? fun e=>(intKind prog w).is k e.2).isSome=σ.any (·==k):=by
 rw [Bool.eq_iff_iff,List.findIdx?_isSome,Sg,Sg]
 constructor
 ·rintro ⟨e,he,h⟩
  obtain ⟨t,ht⟩:=pU h
  refine ⟨k,D.vals.mem_iff.mp (fV ⟨e,he,by rw [ht];rfl⟩),by simp⟩
 ·rintro ⟨x,hx,h⟩
  have e:=beq_iff_eq.mp h
  subst e
  obtain ⟨e,he,h⟩:=dj (D.vals.mem_iff.mpr hx)
  obtain ⟨k,t,ht⟩:=D.isInt he
  rw [ht] at h
  refine ⟨e,he,?_⟩
  rw [ht]
  have:k=x:=h
  subst this
  exact UX _ _ _ _
theorem nx {b:Bool}{tag:String}{Q:Unit→Qs→Prop}(h:Q () s):QF (QJ prog w) A (match b with|true=>rule tag|false=>pure ()) Q E s:=by
 cases b
 ·exact Qv h
 ·exact SO h
theorem u9 {h:QL}{a:Qt}{es es':Array (Int×Qr)} {ep:Nat}{t t':QK}(ho:h.get? a=some (nH es ep t)):(h.update a (R3.putSet es' t')).get? a=some (nH es' (ep+1) t'):=by
 have hd:(nH es ep t).data=.set es ep t:=rfl
 have:=Rh (R3.putSet es' t') ho (by rw [putSet_of es' t' hd];rfl)
 rw [putSet_of es' t' hd] at this
 exact this
theorem ql {a:Qt}{σ:List Int}{k:Int}{t:UN}{Q:Bool→Qs→Prop}(hS:kC prog w s.heap a σ) (hb:σ.length+1<scanBound)
  (h:∀ c h',QL.SameBut a s.heap h'→kC prog w h' a (SR σ k)→Q c { s with heap:=h' }):QF (QJ prog w) A (setAddHashed a (.int k t) ((intKind prog w).hash k)) Q E s:=by
 obtain ⟨es,ep,tb,ho,D⟩:=hS
 have hd:(nH es ep tb).data=.set es ep tb:=rfl
 have HS:=UX prog w k t
 have hz:=D.size
 unfold setAddHashed setAddHashedIn
 refine Q0 (Qq (RI ho hd D.fits ?_))
 dsimp only
 rw [byScan_of (x:=.int k t) rfl D.xI D.el]
 simp only [if_true]
 unfold setAddByScan
 refine Qq ?_
 refine Qq (SO ?_)
 refine Qq (wpAny_setScan_of HS ho hd D.fits D.el ?_)
 have hm:=D.mem k
 cases hr:List.findIdx? (fun e=>(intKind prog w).is k e.2) es.toList with
 | some j =>
  dsimp only
  rw [hr,Option.isSome_some] at hm
  refine Qv (Qv ?_)
  have e:s={ s with heap:=s.heap }:=by cases s;rfl
  have e2:SR σ k=σ:=by unfold SR;rw [if_pos hm.symm]
  have:=h false s.heap (QL.SameBut.refl a s.heap) (by rw [e2];exact ⟨es,ep,tb,ho,D⟩)
  rw [e];exact this
 | none =>
  dsimp only
  rw [hr,Option.isSome_none] at hm
  have e2:SR σ k=σ++[k]:=by unfold SR;rw [if_neg (by rw [← hm];simp)]
  rw [e2] at h
  have pY:=layNew_perm tb es ((intKind prog w).hash k) (.int k t)
  have zA:=layNew_fits tb es ((intKind prog w).hash k) (.int k t)
  have xe:=D.tok.layNew es ((intKind prog w).hash k) (.int k t)
  generalize hL:layNew tb es ((intKind prog w).hash k) (.int k t)=Lz at pY zA xe ⊢
  obtain ⟨vT,t1,wd,Pu⟩:=Lz
  dsimp only at pY zA xe ⊢
  obtain ⟨xe,rfl⟩:=xe
  rw [Array.toList_push] at pY
  have Be:vT.size=es.size+1:=by rw [← Ta,pY.length_eq,QA,Ta];rfl
  have D1:kD prog w vT t1 (σ++[k]):=by
   refine ⟨(D.el.push HS rfl).perm pY,?_,by exact (ji (ag (aD (ak az (ae 1)) aj) (ag (aH a7 az) (ag (aH aa (ak a7 (ae 1))) (aD aa aj))))) hb hz Be,zA,xe⟩
   have:=pY.map fun e=>xV e.2
   rw [Rc] at this
   exact this.trans (D.vals.append_right _)
  refine Qq (nx ?_)
  have Ft:=u9 (es':=vT) (t':=t1) ho
  have HE:=QL.SameBut.update s.heap a (R3.putSet vT t1)
  split
  all_goals
   refine Qq (Qv ?_)
   simp only [if_true]
   refine Qq (Uy ho hd ?_ (S5 D1.xI))
   split
   ·have hp:=relayAll_perm t1 vT (QK.grown vT.size)
    have n8:=relayAll_fits t1 vT (QK.grown vT.size)
    have Kz:=xe.relayAll vT (QK.grown vT.size)
    generalize Qg:relayAll t1 vT (QK.grown vT.size)=Rl at hp n8 Kz ⊢
    obtain ⟨IB,t3,Nw⟩:=Rl
    dsimp only at hp n8 Kz ⊢
    have hsz:IB.size=vT.size:=by rw [← Ta,hp.length_eq,Ta]
    have D2:kD prog w IB t3 (σ++[k]):=⟨D1.el.perm hp,(hp.map fun e=>xV e.2).trans D1.vals,by rw [hsz];exact D1.xI,n8,Kz⟩
    refine Qq (nx ?_)
    refine Qq (Uy Ft rfl ?_ (S5 D2.xI))
    refine Qv (Qv ?_)
    exact h true _ (HE.trans (QL.SameBut.update _ a _)) ⟨IB,_,t3,u9 Ft,D2⟩
   ·refine Qv (Qv ?_)
    exact h true _ HE ⟨vT,_,t1,Ft,D1⟩
end
section
variable {prog:Rn}{w:RE}{A:QE}{E:Qr→Qs→Prop}{s:Qs}
theorem kC.keep {h h':QL}{a:Qt}{σ:List Int}(x:kC prog w h a σ) (k:∀ o,h.get? a=some o→h'.get? a=some o):kC prog w h' a σ :=
 let ⟨es,ep,t,ho,D⟩:=x;⟨es,ep,t,k _ ho,D⟩
abbrev eQ (w:RE):R3:={ cls:=.type "set",dict:=none,data:=.set #[] 0 (.fresh 0 0 (!hY w)) }
theorem kC.fresh {h:QL}{a:Qt}(ho:h.get? a=some (eQ w)):kC prog w h a [] :=
 ⟨#[],0,_,ho,⟨fun e he=>by simp at he,.refl _,by unfold scanBound;decide,rfl,pB.fresh _⟩⟩
theorem q8 (a:Qr) {Q₁:Qr→Qs→Prop}(h:Q₁ (.ref s.heap.objs.size) { s with heap:=s.heap.push (eQ w) }) :
  RS (QJ prog w) A (.call (.builtin "set.__new__") ⟨[.type "set",a],[]⟩) (wants Q₁ E) s:=by
 refine Sq ?_
 show QF _ A.in1 (do checkBuiltinCall "set.__new__" ⟨[.type "set",a],[]⟩;again (.builtin "set.__new__" ⟨[.type "set",a],[]⟩)) _ _ s
 refine Qq (Q4 (PySem.F.newCall_set_1 a) (Qv ⟨SM PySem.F.plain_set_new _,RZ PySem.F.entry_set_new ?_⟩))
 rw [QE.under_plainId PySem.F.plain_set_new _]
 unfold Builtin.«set.__new__» Builtin.Frozenset.newClass
 have iu:=sub_set_self
 obtain ⟨hp,g,d,tk,os⟩:=s
 dsimp only
 wp_walk
 refine S7 (Qv ?_)
 dsimp only
 simp only [newObj]
 refine Qq (wpAny_alloc (Qv ?_))
 exact Qv h
variable {R:Result→Qs→Prop}{I:Qt}{fp wr:List Qt}{G:Array GenState→Array GenState→Prop}{n:Nat}{P:Nat→Qr→Prop}{St:Nat→Qs→Prop}
theorem yp (W:WalksS prog w A.in1 I fp wr G n P St) (S:Qt) (Jz:S∉fp) (val:Nat→Int) (Eg:∀ i v,P i v→∃ t,v=.int (val i) t) (hb:n+1<scanBound) :
  ∀ (k i:Nat) (s:Qs),n-i=k→i≤n→St i s→kC prog w s.heap S (firstMet val i) →
   (∀ s',Moved (S::wr) G s s'→kC prog w s'.heap S (firstMet val n)→R (.ok (.ret .none)) s') →
   RS (QJ prog w) A (.builtin "set.update.loop" ⟨[.ref S,.ref I],[]⟩) R s:=by
 have Ni:S∉wr:=fun h=>Jz (W.sub _ h)
 have iu:∀ b∈wr,b∈S::wr:=fun b hb=>QD _ hb
 intro k
 induction k with
 | zero =>
  intro i s hk hi cv hS hR
  have HU:i=n:=by exact (Lq 2 0 [b9 aj aa] (ag (aH az (ae 0)) (ag (aq aa aj) (aH aa aj)))) hk hi
  subst HU
  refine RZ PyProof.Rows.F.entry_set_update_loop ?_
  rw [QE.under_plainId PyProof.Rows.F.plain_set_update_loop _]
  show QF _ A.in1 (pyNext (.ref I)>>=_) _ _ s
  refine Qq (W.done s _ _ cv fun s' hm=>?_)
  show QF _ A.in1 (ret Qr.none) _ _ s'
  exact Qv (hR s' (hm.mono iu) (hS.keep fun o e=>hm.heap S _ Ni e))
 | succ k ih =>
  intro i s hk hi cv hS hR
  have fE:i<n:=by exact (Lq 3 0 [b9 aj aa] (ag (aH a7 (ak az (ae 1))) (ag (aq aa aj) (aD aa aj)))) hk hi
  refine RZ PyProof.Rows.F.entry_set_update_loop ?_
  rw [QE.under_plainId PyProof.Rows.F.plain_set_update_loop _]
  show QF _ A.in1 (pyNext (.ref I)>>=_) _ _ s
  refine Qq (W.item i s _ _ fE cv fun v s' hP KI hm=>?_)
  obtain ⟨t,rfl⟩:=Eg i v hP
  have EA:kC prog w s'.heap S (firstMet val i):=hS.keep fun o e=>hm.heap S _ Ni e
  show QF _ A.in1 (holding [Qr.int (val i) t] (setAdd S (.int (val i) t))>>=_) _ _ s'
  refine Qq (Q0 ?_)
  unfold setAdd
  refine Q0 ?_
  refine Qq ((intKind prog w).pyHash (k:=val i) (UX _ _ _ _) ?_)
  have zv:(firstMet val i).length+1<scanBound:=by have:=Ul val i;exact (ji (ag (aD (ak az (ae 1)) aj) (ag (aD a7 az) (ag (aq aa a7) (aD (ak aa (ae 1)) aj))))) hb fE this
  refine ql (s:={ s' with toks:=s'.toks+1 }) EA zv fun c h' MO vO=>?_
  rw [← Ua] at vO
  refine Qv ⟨SM PyProof.Rows.F.plain_set_update_loop _,ih (i+1) _ ((Lq 3 0 [b9 aa (ak aj (ae 1)),b9 aa aj] (ag (aH cM (ak az (ae 1))) (ag (aD aj aa) (aH a7 az)))) hk fE) fE (W.frame _ s' _ _ KI (Tv _) fun b hb o e=>?_) vO fun dG KW Ly=>?_⟩
  ·rw [MO.2 b (fun h:b=S=>Jz (by rw [← h];exact hb))];exact e
  ·refine hR dG (Moved.trans W.gtrans ((hm.mono iu).then_heap (Tv _) fun b o hb e=>?_) KW) Ly
   rw [MO.2 b (fun h:b=S=>hb (by rw [h];exact QB))];exact e
set_option maxRecDepth 100000 in
set_option maxHeartbeats 3200000 in
theorem pv {l:Qt}{items:Array Qr}{ns:List Int}{Q:Qr→Qs→Prop}(hh:A.handled=none) (hl:s.heap.IsList l items) (hi:IntsAre items.toList ns) (hb:items.size+1<scanBound)
  (h:∀ (h':QL) (tk:Nat),kC prog w h' s.heap.objs.size (firstMet (fun i=>ns.getD i 0) items.size)→(∀ b o,s.heap.get? b=some o→h'.get? b=some o)→Q (.ref s.heap.objs.size) { s with heap:=h',toks:=tk }) :
  QF (QJ prog w) A (call (.type "set") [.ref l]) Q E s:=by
 obtain ⟨c,tl,Oz⟩:=PySem.F.called_set.mro
 have MY:=PySem.F.called_set.made
 have iu:=PySem.F.called_set.sub
 refine Sy (Sq ?_)
 show QF _ _ (callAny (.type "set") _) _ _ _
 refine Qv ⟨Uq.quiet_builtin _ (by decide +kernel),RZ PySem.F.entry_type_call ?_⟩
 rw [QE.under_plain (weight_type_call_type "set" [.ref l] []) rfl]
 have h1:=PySem.F.called_set.notType
 have h2:=PySem.F.called_set.canCreate
 have Qe:=PySem.F.typeCall_set_1 (.ref l)
 repeat (any_goals (first|assumption|wp_step))
 refine TN (q8 (.ref l) (E:=E) (Q₁:=fun obj ah=>obj=.ref s.heap.objs.size∧ah={ s with heap:=s.heap.push (eQ w) }) ⟨rfl,rfl⟩) fun r ah hr=>?_
 cases r with
 | error e=>exact hr
 | ok fl =>
  cases fl with
  | ret obj =>
   obtain ⟨rfl,rfl⟩:=hr
   have hS:(s.heap.push (eQ w)).get? s.heap.objs.size=some (eQ w):=QN _ rfl
   have hT:Qs.TypeIs { s with heap:=s.heap.push (eQ w) } (.ref s.heap.objs.size) "set":=⟨_,hS,rfl⟩
   have Qc:=PySem.F.called_set.init.lookup
   have Jv:=PySem.F.called_set.init.bind (.ref s.heap.objs.size)
   repeat (any_goals (first|assumption|wp_step))
   refine TN (Tc (R:=wants (fun r bk=>r=.none∧∃ h' tk,bk={ s with heap:=h',toks:=tk }∧kC prog w h' s.heap.objs.size (firstMet (fun i=>ns.getD i 0) items.size) ∧
     (∀ b o,s.heap.get? b=some o→h'.get? b=some o)) E) PySem.F.called_set.init.plain PySem.F.entry_set_init (check_set_init_1 hT ?_)) fun bt bk zu=>?_
   ·obtain ⟨ol,ft,FA,nl,M6⟩:=hl
    obtain ⟨NT,Gf,Mn,DN⟩:=ol
    simp only at FA M6
    subst FA;subst M6
    have KS:(s.heap.push (eQ w)).get? l=some { cls:=.type "list",dict:=Gf,data:=.seq items nl,slots:=DN }:=Qz _ ft
    have Od:=PySem.F.sub_list_set
    have Oe:=PySem.F.sub_list_frozenset
    have cy:(Qr.type "list"==Qr.type "dict")=false:=av
    have vG:(s.heap.push (eQ w)).IsList l items:=⟨_,KS,rfl,nl,rfl⟩
    unfold Builtin.«set.__init__» noKeywords Builtin.Frozenset.updateFrom
    generalize Pb:pyIter=PI
    wp_walk
    subst Pb
    refine S3 vG ?_
    refine Qq (UY ?_)
    have M3:l<s.heap.objs.size:=Rt ft
    have OI:A.in1.in1.in1.handled=none:=by simp [hh]
    have KV:l≠(s.heap.push (eQ w)).objs.size:=by rw [Su];exact RO (Sr M3)
    have Jz:s.heap.objs.size∉[(s.heap.push (eQ w)).objs.size,l]:=by
     rw [Su];simp only [R1,QO,RB,or_false,not_or]
     exact ⟨RO (SI _),R0 M3⟩
    have Eg:∀ (i:Nat) (v:Qr),items[i]?=some v→∃ t,v=.int ((fun i=>ns.getD i 0) i) t:=fun i v hv =>
     IntsAre.int_at hi i v (by rw [Rx];exact hv)
    refine yp ((Walks.list OI _ l KV items).toS) s.heap.objs.size Jz (fun i=>ns.getD i 0) Eg hb (items.size-0) 0 _ (@GA _) (RC _)
     ⟨⟨_,QN _ rfl,rfl,rfl⟩,(vG.push _)⟩ (kC.fresh (Qz _ hS)) fun s' hm EA=>?_
    obtain ⟨h',g',d',DB,os'⟩:=s'
    have eg:g'=s.gens:=hm.gens
    have ed:d'=s.drawn:=hm.drawn
    have eo:os'=s.os:=hm.os
    subst eg;subst ed;subst eo
    show QF _ _ _ _ _ _
    refine Qv ?_
    show QF _ _ (ret Qr.none) _ _ _
    refine Qv ⟨rfl,h',DB,rfl,EA,fun b o e=>?_⟩
    have Jx:=Rt e
    have Lr:b≠s.heap.objs.size:=RO Jx
    have Jw:b≠(s.heap.push (eQ w)).objs.size:=by rw [Su];exact RO (Sr Jx)
    exact hm.heap b o (by simp only [R1,QO,RB,or_false,not_or];exact ⟨Lr,Jw⟩) (Qz _ (Qz _ e))
   ·cases bt with
    | error e=>exact zu
    | ok Iy =>
     cases Iy with
     | ret r =>
      obtain ⟨rfl,h',tk,rfl,EA,j0⟩:=zu
      repeat (any_goals (first|assumption|wp_step))
      exact h _ _ EA j0
     | _=>exact zu.elim
  | _=>exact hr.elim
end
theorem cW:Slot "set_iterator" "__next__" "set_iterator.__next__" :=
 .of (owner:="set_iterator") (n:="__next__") (by rw [SN,Sd];kernel_rfl) (by decide +kernel) (by decide +kernel) (by decide +kernel)
  (by first|exact .inl (by decide +kernel)|exact .inr (by decide +kernel)) (by rw [Tq];kernel_rfl)
theorem i0:entryFor table "set_iterator.__next__"=some Builtin.«set_iterator.__next__»:=entryFor_of_tree (by kernel_rfl)
theorem qZ:entryFor table "set.__iter__"=some Builtin.«frozenset.__iter__»:=UZ (id':="frozenset.__iter__") (by kernel_rfl) rfl (by decide +kernel) (by kernel_rfl)
theorem jK (a:Qr):argsOk "set_iterator.__next__" ⟨[a],[]⟩:=by unfold argsOk;kernel_rfl
theorem ou {α:Type}{l:List α}{i:Nat}(h:i<l.length):(l[i]::l.eraseIdx i).Perm l:=by
 rw [List.eraseIdx_eq_take_drop_succ]
 refine List.perm_middle.symm.trans ?_
 have:l.take i++l[i]::l.drop (i+1)=l:=by rw [← List.drop_eq_getElem_cons h,List.take_append_drop]
 rw [this]
theorem AX {α:Type}(next:Nat→Nat):∀ (f k:Nat) (left:List α) (out:Array α),left.length=f→(pickOrder.go next f k left out).toList.Perm (out.toList++left):=fun f=>by
 induction f with
 | zero =>
  intro k left out h
  have:left=[]:=List.length_eq_zero_iff.mp h
  subst this
  show out.toList.Perm (out.toList++[])
  rw [Sj]
 | succ f bA =>
  intro k left out h
  have hl:next k % left.length<left.length:=UB _ ((cS (ag (aH aa (ak aj (ae 1))) (aD (ae 0) aa))) h)
  unfold pickOrder.go
  rw [QI hl]
  dsimp only
  refine (bA (k+1) _ _ (by rw [List.length_eraseIdx_of_lt hl];exact Co h)).trans ?_
  rw [Array.toList_push,Q9]
  refine List.Perm.append_left _ ?_
  show (left[next k % left.length]::left.eraseIdx (next k % left.length)).Perm left
  exact ou hl
theorem wQ {α:Type}(next:Nat→Nat) (xs:Array α):(pickOrder next xs).toList.Perm xs.toList:=by
 have:=AX next xs.size 0 xs.toList #[] (by simp)
 simpa [pickOrder] using this
section
variable {prog:Rn}{w:RE}{A:QE}{E:Qr→Qs→Prop}{s:Qs}
theorem oY {src:Source}{n:Nat}{Q:Nat→Qs→Prop}(hn:n≠0) (h:∀ x dr,x<n→Q x { s with drawn:=dr }):QF (QJ prog w) A (choose src n) Q E s:=fun Γ p P8=>by
 show n≠0∧_
 exact ⟨hn,h _ _ (UB _ (Nat.pos_of_ne_zero hn))⟩
theorem iT {α:Type}:∀ (n:Nat) (xs:List α) (s:Qs) {Q:List α→Qs→Prop},xs.length=n→(∀ ys dr,ys.Perm xs→Q ys { s with drawn:=dr })→QF (QJ prog w) A (drawOrder n xs) Q E s
 | 0,xs,s,Q,hl,h=>by
  have:xs=[]:=List.length_eq_zero_iff.mp hl
  subst this
  exact Qv (h [] s.drawn (.refl _))
 | n+1,[],s,Q,hl,h=>by simp at hl
 | n+1,x::xs,s,Q,hl,h=>by
  show QF _ _ (choose .order (x::xs).length>>=_) _ _ _
  refine Qq (oY (by simp) fun i dr hi=>?_)
  rw [QI hi]
  dsimp only
  refine Qq (iT n _ _ (by rw [List.length_eraseIdx_of_lt hi];exact Co hl) fun ys PH hp=>?_)
  exact Qv (h _ PH ((hp.cons _).trans (ou hi)))
structure BO (w:RE) (h:QL) (I S T:Qt) (es:Array (Int×Qr)) (ep:Nat) (t:QK) (ord:List Qr) (i:Nat):Prop where
 set:h.get? S=some (nH es ep t)
 it:∃ first,h.get? I=some { cls:=.type "set_iterator",data:=.fields #[first,.int (i:Int) 0,.ref S,.int (es.size:Int) 0,.int (ep:Int) 0] } ∧
  ((hY w=true∧(∃ sl:Nat,first=.int (sl:Int) 0)∧ord=(pickOrder (w.params.setOrder S ep) es).toList.map (·.2)) ∨
  (hY w=false∧(!t.plain&&decide (es.size > 1))=false∧ord=es.toList.map (·.2)∧∃ sl:Nat,first=.int (sl:Int) 0∧QK.below t.place sl=i) ∨
  (∃ ps:List Nat,first=.ref T∧h.get? T=some { cls:=.type "tuple",data:=.seq (ps.map fun (p:Nat)=>RM p).toArray }∧(∀ p∈ps,p<es.size)∧ord=ps.map fun p=>(es.getD p (0,.none)).2))
theorem uN {xs:Array Nat}(h:xM xs) {i:Nat}(hi:i<xs.size):QK.below xs (xs[i]+1)=i+1:=by
 obtain ⟨h1,h2,h3⟩:=kz h (xs[i]+1)
 have gi:∀ d,xs.getD i d=xs[i]:=fun d=>by simp [getD,hi]
 by_cases a:QK.below xs (xs[i]+1)≤i
 ·have:=h3 i a hi
  rw [gi] at this;exact (ji (ag (aD aj az) (ag (aq (ak a7 (ae 1)) a7) (aH aa (ak aj (ae 1)))))) hi this
 ·by_cases c:QK.below xs (xs[i]+1)=i+1
  ·exact c
  ·have k1:=h2 (i+1) ((dC (ag (aD aa az) (ag (bI (aq aj aa)) (ag (bI (aH aj (ak aa (ae 1)))) (aD (ak aa (ae 1)) aj))))) hi a c)
   have k2:=h.get (i:=i) (k:=i+1) ((cS (ag (aD aa aj) (aD aa (ak aa (ae 1))))) hi) ((dC (ag (aD aa aj) (ag (aq az aj) (ag (bI (aq az aa)) (ag (bI (aH az (ak aa (ae 1)))) (aD (ak aa (ae 1)) aj)))))) hi h1 a c) (xs[i]+1)
   rw [gi] at k2;exact (xD (ag (aD aj az) (ag (aD a7 (ak cM (ae 1))) (ag (aD cM a7) (aH aa (ak aj (ae 1))))))) hi k1 k2
theorem BO.keep {h h':QL}{I S T:Qt}{es:Array (Int×Qr)} {ep:Nat}{t:QK}{ord:List Qr}{i:Nat}(x:BO w h I S T es ep t ord i) (k:∀ b∈[I,S,T],∀ o,h.get? b=some o→h'.get? b=some o):BO w h' I S T es ep t ord i:=by
 obtain ⟨h1,first,h2,h3⟩:=x
 exact ⟨k S (by simp) _ h1,first,k I (by simp) _ h2,h3.imp id fun h3=>h3.imp id fun ⟨ps,e,h4,r⟩=>⟨ps,e,k T (by simp) _ h4,r⟩⟩
end
section
variable {prog:Rn}{w:RE}{A:QE}{E:Qr→Qs→Prop}{s:Qs}
theorem wpAny_setEntries_of {a:Qt}{es:Array (Int×Qr)} {ep:Nat}{t:QK}{Q:Array (Int×Qr)→Qs→Prop} (ho:s.heap.get? a=some (nH es ep t)) (hf:t.fits es.size=true) (h:Q es s):QF (QJ prog w) A (setEntries a) Q E s:=by
 unfold setEntries
 exact Qq (RI ho rfl hf (Qv h))
theorem fX {Q:Bool→Qs→Prop}(h:Q (hY w) s):QF (QJ prog w) A setsByText Q E s:=by
 unfold setsByText
 exact Qq (S7 (Qv h))
theorem dE {h:QL}{a:Qt}{vs:Array Qr}{c:Qr}{i:Nat}{x:Qr}(ho:h.get? a=some { cls:=c,data:=.fields vs }):(h.update a (R3.mapFields (·.setIfInBounds i x))).get? a=some { cls:=c,data:=.fields (vs.setIfInBounds i x) } :=
 Rh _ ho (R3.isFreed_of_fields (R3.data_mapFields rfl _))
theorem kM {S:Qt}{es:Array (Int×Qr)} {ep sl i:Nat}{t:QK}{Q:Option (Qr×Nat)→Qs→Prop} (hS:s.heap.get? S=some (nH es ep t)) (hf:t.fits es.size=true) (hB:hY w=true)
  (h:Q (((pickOrder (w.params.setOrder S ep) es)[i]?).map fun e=>(e.2,sl)) s):QF (QJ prog w) A (setNext S sl i ep) Q E s:=by
 unfold setNext
 refine Qq (RI hS rfl hf ?_)
 dsimp only
 refine Qq (fX ?_)
 rw [hB,if_pos rfl,if_neg (by simp)]
 refine Qq ?_
 unfold setWalk
 refine Qq (RI hS rfl hf ?_)
 dsimp only
 refine Qq (fX ?_)
 rw [hB,if_pos rfl]
 exact Qq (S7 (Qv (Qv h)))
theorem kb {S:Qt}{es:Array (Int×Qr)} {ep sl i:Nat}{t:QK}{Q:Option (Qr×Nat)→Qs→Prop} (hS:s.heap.get? S=some (nH es ep t)) (hf:t.fits es.size=true) (hB:hY w=false) (hl:t.led=true) (Fy:(!t.plain&&decide (es.size > 1))=false)
  (h:Q (match es[QK.below t.place sl]?,t.place[QK.below t.place sl]? with|some (_,x),some j=>some (x,j+1)|_,_=>none) s):QF (QJ prog w) A (setNext S sl i ep) Q E s:=by
 unfold setNext
 refine Qq (RI hS rfl hf ?_)
 dsimp only
 refine Qq (fX ?_)
 rw [hB,if_neg (by simp)]
 split
 ·rename_i hh
  exact absurd (show (!t.plain&&decide (es.size > 1))=true from hh) (by rw [Fy];simp)
 ·refine Qq (show QF _ _ (if (!t.led&&!es.isEmpty)=true then unsupported _ else pure ()) _ _ _ from ?_)
  rw [hl,if_neg (by simp)]
  exact Qv (Qv h)
theorem wF {I S T:Qt}{es:Array (Int×Qr)} {ep:Nat}{t:QK}{ord:List Qr}{σ:List Int}{i:Nat}{v:Qr}{P:PySem.Fin→Qs→Prop}(D:kD prog w es t σ) (cy:I≠S∧I≠T) (x:BO w s.heap I S T es ep t ord i) (hv:ord[i]?=some v)
  (h:∀ h',BO w h' I S T es ep t ord (i+1)→(∀ b o,b≠I→s.heap.get? b=some o→h'.get? b=some o)→P (.done (.ret v)) { s with heap:=h' }):QF (QJ prog w) A (Builtin.«set_iterator.__next__» ⟨[.ref I],[]⟩) P E s:=by
 obtain ⟨hS,first,hI,hm⟩:=x
 have up1:∀ (x:Qr),QL.SameBut I s.heap (s.heap.update I (R3.mapFields (·.setIfInBounds 0 x))):=fun x=>QL.SameBut.update ..
 have two:∀ (x y:Qr),∀ b o,b≠I→s.heap.get? b=some o→((s.heap.update I (R3.mapFields (·.setIfInBounds 0 x))).update I (R3.mapFields (·.setIfInBounds 1 y))).get? b=some o:=fun x y b o hb e=>by
  rw [Sf _ _ (Ne.symm hb),Sf _ _ (Ne.symm hb)];exact e
 unfold Builtin.«set_iterator.__next__»
 refine Qq (m:=slotArgs "__next__" 0 ⟨[.ref I],[]⟩) (Qv ?_)
 dsimp only
 refine Qq (U0 hI rfl ?_)
 dsimp only
 refine Qq (wpAny_setEntries_of hS D.fits ?_)
 rw [if_neg (by simp)]
 rcases hm with ⟨hB,⟨sl,rfl⟩,rfl⟩|⟨hB,Fy,rfl,sl,rfl,Ej⟩|⟨ps,rfl,hT,KO,rfl⟩
 ·dsimp only
  rw [QW,QW,QW]
  refine Qq (kM hS D.fits hB ?_)
  rw [QU,Rx] at hv
  cases hp:(pickOrder (w.params.setOrder S ep) es)[i]? with
  | none=>rw [hp] at hv;cases hv
  | some e =>
   rw [hp] at hv;cases hv
   dsimp only [Vq]
   refine Qq (Rp hI rfl av ?_)
   refine Qq (Rp (dE hI) rfl av ?_)
   refine Qv (h _ ⟨two _ _ S _ (Ne.symm cy.1) hS,_,dE (dE hI),.inl ⟨hB,⟨sl,rfl⟩,rfl⟩⟩ (two _ _))
 ·dsimp only
  rw [QW,QW,QW]
  refine Qq (kb hS D.fits hB (by rw [D.tok.led,hB];rfl) Fy ?_)
  rw [Ej]
  rw [QU,Rx] at hv
  cases hp:es[i]? with
  | none=>rw [hp] at hv;cases hv
  | some e =>
   rw [hp] at hv;cases hv
   have hi:i<es.size:=(Array.getElem?_eq_some_iff.mp hp).1
   have hz:t.place.size=es.size:=by
    have:=D.fits
    unfold QK.fits at this
    simp only [R5,beq_iff_eq] at this
    exact this.1
   rw [getElem?_pos t.place i (by exact ju hi hz)]
   dsimp only
   refine Qq (Rp hI rfl av ?_)
   refine Qq (Rp (dE hI) rfl av ?_)
   refine Qv (h _ ⟨two _ _ S _ (Ne.symm cy.1) hS,_,dE (dE hI),.inr (.inl ⟨hB,Fy,rfl,_,rfl,uN D.tok.JZ (ju hi hz)⟩)⟩ (two _ _))
 ·dsimp only
  refine Qq (U1 hT rfl ?_)
  dsimp only
  rw [QU] at hv
  cases hp:ps[i]? with
  | none=>rw [hp] at hv;cases hv
  | some p =>
   rw [hp] at hv;cases hv
   have fE:=KO p (Q1 hp)
   have e1:((ps.map fun (p:Nat)=>RM p).toArray)[(i:Int).toNat]?=some (RM (p:Int)):=by
    rw [QW,Ri,QU,hp];rfl
   rw [e1]
   show QF _ _ (setNextDrawn S ((p:Int).toNat) ((ep:Int).toNat)>>=_) _ _ _
   rw [QW,QW]
   unfold setNextDrawn
   refine Qq (Qq (RI hS rfl D.fits ?_))
   dsimp only
   rw [if_neg (by simp),getElem?_pos es p fE]
   dsimp only
   refine Qv ?_
   refine Qq (Rp hI rfl av ?_)
   have one:∀ b o,b≠I→s.heap.get? b=some o→(s.heap.update I (R3.mapFields (·.setIfInBounds 1 (RM ((i:Int)+1))))).get? b=some o:=fun b o hb e=>by
    rw [Sf _ _ (Ne.symm hb)];exact e
   have e3:(es.getD p (0,Qr.none)).2=es[p].2:=by simp [getD,fE]
   have hh:=h (s.heap.update I (R3.mapFields (·.setIfInBounds 1 (RM ((i:Int)+1))))) ⟨one S _ (Ne.symm cy.1) hS,_,dE hI,.inr (.inr ⟨ps,rfl,one T _ (Ne.symm cy.2) hT,KO,rfl⟩)⟩ one
   dsimp only at hh
   rw [e3] at hh
   exact Qv hh
theorem yo {I S T:Qt}{es:Array (Int×Qr)} {ep:Nat}{t:QK}{ord:List Qr}{σ:List Int}{Q:PySem.Fin→Qs→Prop}(hh:A.handled=none) (D:kD prog w es t σ) (cy:I≠S∧I≠T) (x:BO w s.heap I S T es ep t ord es.size) (hz:ord.length=es.size)
  (h:∀ h' e,QL.ExtBut I s.heap h'→(∃ o,h'.get? e=some o∧o.cls=.type "StopIteration")→E (.ref e) { s with heap:=h' }):QF (QJ prog w) A (Builtin.«set_iterator.__next__» ⟨[.ref I],[]⟩) Q E s:=by
 obtain ⟨hS,first,hI,hm⟩:=x
 have raise:∀ (h₁:QL),QL.ExtBut I s.heap h₁→QF (QJ prog w) A (newExc (.type "StopIteration") []>>=fun e=>(raiseNew e:Sem PySem.Fin)) Q E { s with heap:=h₁ }:=fun h₁ hx=>by
  refine Qq ?_
  simp only [newExc,newTuple]
  refine Qq (RW ?_ (by size_fits))
  refine Qq (m:=firstArgMember _ _) (Q4 (a:=Qr.none) (by first|rfl|(simp only [firstArgMember];rfl)) ?_)
  refine RW ?_ (by size_fits)
  simp only [raiseNew]
  refine Qq (U4 ?_)
  rw [hh]
  refine Qq (Qv (wpAny_throw ?_))
  exact h _ _ ((hx.push _).push _) ⟨_,QN _ rfl,rfl⟩
 unfold Builtin.«set_iterator.__next__»
 refine Qq (m:=slotArgs "__next__" 0 ⟨[.ref I],[]⟩) (Qv ?_)
 dsimp only
 refine Qq (U0 hI rfl ?_)
 dsimp only
 refine Qq (wpAny_setEntries_of hS D.fits ?_)
 rw [if_neg (by simp)]
 rcases hm with ⟨hB,⟨sl,rfl⟩,rfl⟩|⟨hB,Fy,rfl,sl,rfl,Ej⟩|⟨ps,rfl,hT,KO,rfl⟩
 ·dsimp only
  rw [QW,QW,QW]
  refine Qq (kM hS D.fits hB ?_)
  have hn:(pickOrder (w.params.setOrder S ep) es)[es.size]?=none:=by
   rw [Qu,Ta] at hz
   exact Array.getElem?_eq_none (yK hz)
  rw [hn]
  dsimp only [Option.map_none]
  refine Qq (Rp hI rfl av ?_)
  exact raise _ (QL.SameBut.update ..).extBut
 ·dsimp only
  rw [QW,QW,QW]
  refine Qq (kb hS D.fits hB (by rw [D.tok.led,hB];rfl) Fy ?_)
  rw [Ej,Array.getElem?_eq_none (QV _)]
  dsimp only
  refine Qq (Rp hI rfl av ?_)
  exact raise _ (QL.SameBut.update ..).extBut
 ·dsimp only
  refine Qq (U1 hT rfl ?_)
  dsimp only
  have hn:((ps.map fun (p:Nat)=>RM p).toArray)[(es.size:Int).toNat]?=none:=by
   rw [Qu] at hz
   rw [QW,Ri,QU,R6 (by exact yK hz)];rfl
  rw [hn]
  dsimp only
  refine Qq (Rp hI rfl av ?_)
  refine Qq (Rp (dE hI) rfl av ?_)
  exact raise _ ((QL.SameBut.update ..).extBut.trans (QL.SameBut.update ..).extBut)
theorem jn:Slot "set_iterator" "__iter__" "set_iterator.__iter__" :=
 .of (owner:="set_iterator") (n:="__iter__") (by rw [SN,Sd];kernel_rfl) (by decide +kernel) (by decide +kernel) (by decide +kernel)
  (by first|exact .inl (by decide +kernel)|exact .inr (by decide +kernel)) (by rw [Tq];kernel_rfl)
theorem mR:entryFor table "set_iterator.__iter__"=some Builtin.«dict_keyiterator.__iter__»:=UZ (id':="dict_keyiterator.__iter__") (by kernel_rfl) rfl (by decide +kernel) (by kernel_rfl)
theorem oI (a:Qr):argsOk "set_iterator.__iter__" ⟨[a],[]⟩:=by unfold argsOk;kernel_rfl
theorem xT {prog:Rn}{w:RE}{A:QE}(hh:A.handled=none) (I S T:Qt) (cy:I≠S∧I≠T) {es:Array (Int×Qr)} {ep:Nat}{t:QK}{ord:List Qr}{σ:List Int}(D:kD prog w es t σ) (hz:ord.length=es.size) :
  Walks prog w A I [I,S,T] [I] es.size (fun i v=>ord[i]?=some v) (fun i h=>BO w h I S T es ep t ord i) where
 sub:=fun b hb=>by simp at hb;simp [hb]
 frame:=fun _ _ _ st hk=>st.keep hk
 item:=fun i s Q E hi st hQ=>by
  have hT:s.TypeIs (.ref I) "set_iterator":=let ⟨_,_,hI,_⟩:=st;⟨_,hI,rfl⟩
  obtain ⟨v,hv⟩:∃ v,ord[i]?=some v:=⟨_,QI (pa hz hi)⟩
  unfold pyNext
  refine Qq (S9 (Rm (name:=Qy.ofString "__next__") hT cW (Rj cW hT i0 ?_ (jK _))))
  exact wF D cy st hv fun h' DG k=>⟨v,rfl,Qv (hQ v h' s.toks hv DG fun b o hb e=>k b o (fun z=>hb (by rw [z];exact QO.mpr rfl)) e)⟩
 done:=fun s Q E st hQ=>by
  have hT:s.TypeIs (.ref I) "set_iterator":=let ⟨_,_,hI,_⟩:=st;⟨_,hI,rfl⟩
  unfold pyNext
  refine Qq (S9 (Rm (name:=Qy.ofString "__next__") hT cW (Rj cW hT i0 ?_ (jK _))))
  refine yo (by simpa using hh) D cy st hz fun h' e hx he=>?_
  obtain ⟨o,ho,hc⟩:=he
  refine Qq (TJ (T:="StopIteration") (b:=true) ⟨o,ho,hc⟩ (by rw [Tq];kernel_rfl) ?_)
  rw [if_pos rfl]
  exact Qv (hQ h' s.toks fun b o hb e=>hx b o (fun z=>hb (by rw [z];exact QO.mpr rfl)) e)
 self:=fun i s Q E st hQ=>by
  have hT:s.TypeIs (.ref I) "set_iterator":=let ⟨_,_,hI,_⟩:=st;⟨_,hI,rfl⟩
  refine Uz hT jn (Rj jn hT mR ?_ (oI _))
  show QF _ _ (ret (.ref I)) _ _ s
  exact Qv ⟨_,rfl,"set_iterator",_,hT,cW.lookup,hQ⟩
theorem kD.tR {es:Array (Int×Qr)} {t:QK}{σ:List Int}(D:kD prog w es t σ) {ord:List Qr}(hp:ord.Perm (es.toList.map (·.2))):∃ ns,IntsAre ord ns∧ns.Perm σ:=by
 have all:∀ v∈ord,∃ k t,v=.int k t:=fun v hv=>by
  obtain ⟨e,he,rfl⟩:=dj (hp.mem_iff.mp hv)
  exact D.isInt he
 have k:∀ l:List Qr,(∀ v∈l,∃ k t,v=.int k t)→IntsAre l (l.map xV):=fun l=>by
  induction l with
  | nil=>exact fun _=>.nil
  | cons v l ih =>
   intro h
   obtain ⟨k,t,rfl⟩:=h v QB
   exact .cons k t (ih fun u hu=>h u (QD _ hu))
 refine ⟨_,k ord all,?_⟩
 have:=hp.map xV
 rw [Rk] at this
 exact this.trans D.vals
theorem zq {S:Qt}{es:Array (Int×Qr)} {ep:Nat}{t:QK}{σ:List Int}{Q:Qr→Qs→Prop}(hS:s.heap.get? S=some (nH es ep t)) (D:kD prog w es t σ)
  (h:∀ h' dr I T ord,(∀ b o,s.heap.get? b=some o→h'.get? b=some o)→BO w h' I S T es ep t ord 0→I≠S∧I≠T→(T=S∨s.heap.get? T=none)→s.heap.get? I=none→ord.length=es.size→ord.Perm (es.toList.map (·.2))→Q (.ref I) { s with heap:=h',drawn:=dr }) :
  QF (QJ prog w) A (pyIter (.ref S)) Q E s:=by
 have hT:s.TypeIs (.ref S) "set":=⟨_,hS,rfl⟩
 have Jy:=Rt hS
 have Kp:∀ {ord:List Qr},ord.Perm (es.toList.map (·.2))→ord.length=es.size:=fun hp=>by rw [hp.length_eq,Qu];rfl
 refine Uz hT PySem.F.slot_set_iter (Rj PySem.F.slot_set_iter hT qZ ?_ (PySem.F.args_set_iter_1 _))
 unfold Builtin.«frozenset.__iter__»
 refine Qq (m:=Builtin.Frozenset.slot0 "__iter__" ⟨[.ref S],[]⟩) (Qv ?_)
 unfold Builtin.Frozenset.sizeOf
 refine Qq (Qq (wpAny_setEntries_of hS D.fits (Qv ?_)))
 unfold setDrawn
 refine Qq (Qq (RI hS rfl D.fits ?_))
 dsimp only
 refine Qq (fX (Qv ?_))
 have fin:∀ (first:Qr) (ah:Qs) (T:Qt) (ord:List Qr) (h₁:QL) (dr:S6),ah={ s with heap:=h₁,drawn:=dr }→(∀ b o,s.heap.get? b=some o→h₁.get? b=some o)→T<h₁.objs.size→(T=S∨s.heap.get? T=none)→ord.Perm (es.toList.map (·.2)) →
   (∀ eR I,(∀ b o,h₁.get? b=some o→eR.get? b=some o)→eR.get? I=some { cls:=.type "set_iterator",data:=.fields #[first,.int ((0:Nat):Int) 0,.ref S,.int (es.size:Int) 0,.int (ep:Int) 0] }→BO w eR I S T es ep t ord 0) →
   QF (QJ prog w) A.in1 (do ret (← newFields "set_iterator" [first,RM 0,.ref S,RM es.size,RM (← setEpoch S)])) (fun fin s'=>∃ v,fin=.done (.ret v)∧∃ T' r,s'.TypeIs v T'∧typeLookup (.type T') "__next__"=pure (some r)∧Q v s') E ah:=fun first ah T ord h₁ dr e hk O3 FF hp hI=>by
  subst e
  unfold setEpoch
  refine Qq (Qq (RI (s:={ s with heap:=h₁,drawn:=dr }) (hk _ _ hS) rfl D.fits (Qv ?_)))
  refine Qq (RW (Qv ⟨_,rfl,"set_iterator",_,⟨_,QN _ rfl,rfl⟩,cW.lookup,?_⟩))
  have Lv:S<h₁.objs.size:=Rt (hk _ _ hS)
  exact h _ dr _ T ord (fun b o e=>Qz _ (hk b o e)) (hI _ _ (fun b o e=>Qz _ e) (QN _ rfl)) ⟨R0 Lv,R0 O3⟩ FF (by
   cases z:s.heap.get? h₁.objs.size with
   | none=>rfl
   | some o=>exact absurd (Rt (hk _ _ z)) (TH _)) (Kp hp) hp
 split
 ·rename_i hh
  refine Qq (iT es.size (range es.size) s (by simp) fun ys dr hp=>?_)
  have Oa:∀ p∈ys,p<es.size:=fun p hm=>R8.mp (hp.mem_iff.mp hm)
  have hlen:ys.length=es.size:=by rw [hp.length_eq,Q6]
  have qN:=S5 D.xI
  have e1:(range es.size).map (fun p=>(es.getD p (0,Qr.none)).2)=es.toList.map (·.2):=by
   refine SX (by simp) fun i h1 h2=>?_
   have h3:i<es.size:=by simpa using h1
   simp [getD,h3]
  refine Qq (TZ ?_ (by rw [Qu,hlen];exact qN))
  refine fin _ _ s.heap.objs.size (ys.map fun p=>(es.getD p (0,Qr.none)).2) _ dr rfl (fun b o e=>Qz _ e) (by rw [Su];exact SI _) (.inr (QL.get?_none_of_le (QV _))) ?_ fun eR I hk hI=>⟨hk _ _ (Qz _ hS),_,hI,.inr (.inr ⟨ys,rfl,hk _ _ (QN _ rfl),Oa,rfl⟩)⟩
  have:=hp.map fun p=>(es.getD p (0,Qr.none)).2
  rwa [e1] at this
 ·rename_i hh
  have hd:(!hY w&&(!t.plain&&decide (es.size > 1)))=false:=by
   cases z:(!hY w&&(!t.plain&&decide (es.size > 1))) with
   | false=>rfl
   | true=>exact absurd z hh
  refine Qq (Qv ?_)
  cases hB:hY w with
  | true =>
   refine fin _ _ S ((pickOrder (w.params.setOrder S ep) es).toList.map (·.2)) _ s.drawn rfl (fun b o e=>e) Jy (.inl rfl) ((wQ _ es).map _) fun eR I hk hI=>⟨hk _ _ hS,_,hI,.inl ⟨hB,⟨0,rfl⟩,rfl⟩⟩
  | false =>
   rw [hB] at hd
   refine fin _ _ S (es.toList.map (·.2)) _ s.drawn rfl (fun b o e=>e) Jy (.inl rfl) (.refl _) fun eR I hk hI=>⟨hk _ _ hS,_,hI,.inr (.inl ⟨hB,hd,rfl,0,rfl,?_⟩)⟩
   obtain ⟨h1,h2,h3⟩:=kz D.tok.JZ 0
   rcases Nat.eq_zero_or_pos (QK.below t.place 0) with z|z
   ·exact z
   ·exact absurd (h2 0 z) (TA _)
theorem sN {S:Qt}{σ:List Int}{Q:List Qr→Qs→Prop}(hh:A.handled=none) (hS:kC prog w s.heap S σ) (h:∀ vs ns h' tk dr,(∀ b o,s.heap.get? b=some o→h'.get? b=some o)→IntsAre vs ns→ns.Perm σ→Q vs { s with heap:=h',toks:=tk,drawn:=dr }) :
  QF (QJ prog w) A (collect (.ref S)) Q E s:=by
 obtain ⟨es,ep,t,hS,D⟩:=hS
 have hT:s.TypeIs (.ref S) "set":=⟨_,hS,rfl⟩
 have Jy:=Rt hS
 have Lw:s.heap.objs.size≠S:=R0 Jy
 unfold collect
 refine Qq (UY (RZ PySem.F.entry_proto_collect ?_))
 rw [QE.under_plainId PySem.F.plain_proto_collect _]
 show QF _ A.in1 (newList []>>=fun l=>again (.builtin "list.__iadd__" ⟨[l,.ref S],[]⟩)) _ _ s
 refine Qq (RW ?_)
 refine Qv ⟨SM PySem.F.plain_list_iadd _,RZ PySem.F.entry_list_iadd ?_⟩
 rw [QE.under_plainId PySem.F.plain_list_iadd _]
 have Dm:(s.heap.push { cls:=.type "list",data:=.seq ([]:List Qr).toArray }).get? s.heap.objs.size=some { cls:=.type "list",data:=.seq ([]:List Qr).toArray }:=QN _ rfl
 have h1:Builtin.List.listSameRef (.ref s.heap.objs.size) (.ref S)=false:=by simp [Builtin.List.listSameRef,Lw]
 have zH:(s.heap.push { cls:=.type "list",data:=.seq ([]:List Qr).toArray }).get? S=some (nH es ep t):=Qz _ hS
 show QF _ A.in1 (Builtin.List.listExtendWith (.ref s.heap.objs.size) (.ref S) (.ref s.heap.objs.size)) _ _ _
 unfold Builtin.List.listExtendWith
 refine Qq (Vj (T:="set") ⟨_,zH,rfl⟩ ?_)
 rw [if_neg (by rw [h1];decide)]
 refine Qq (zq zH D fun eR dr I T ord iY st cy FF hIn hz hp=>?_)
 have Np:Qs.TypeIs { s with heap:=eR,drawn:=dr } (.ref I) "set_iterator":=let ⟨_,_,hI,_⟩:=st;⟨_,hI,rfl⟩
 refine Qq (Q0 ?_)
 unfold Builtin.List.listLengthHint
 have vO:Qs.TypeIs { s with heap:=eR,drawn:=dr } (.ref S) "set":=⟨_,iY _ _ zH,rfl⟩
 refine Qq (Tf vO PySem.F.slot_set_len.lookup ?_)
 (generalize K8:("set.__len__":String)=MF;(fail_if_success (clear K8 MF));wp_delta;rw [show splitId MF=some ("set","__len__") from by subst K8;decide +kernel];subst K8)
 refine Qq (TJ (b:=true) vO (by rw [Tq];kernel_rfl) ?_)
 refine Qq (Vj vO ?_)
 refine Qv ?_
 show QF _ A.in1 (rule "list.extend.makes-room">>=fun _=>Builtin.List.listTouch (.ref s.heap.objs.size)>>=fun _ =>
  again (.builtin "list.extend.loop" ⟨[.ref s.heap.objs.size,.ref I,.ref s.heap.objs.size],[]⟩)) _ _ _
 refine Qq (SO ?_)
 have zJ:=iY _ _ Dm
 refine Qq ?_
 show QF _ A.in1 (updateSeq s.heap.objs.size (·.push .none)>>=fun _=>updateSeq s.heap.objs.size (·.pop)) _ _ _
 refine Qq (TP zJ rfl ?_)
 have Dk:=Rh (R3.mapSeq (·.push Qr.none)) zJ rfl
 refine TP Dk rfl ?_
 have Ik:=Rh (R3.mapSeq (·.pop)) Dk rfl
 have Ml:∀ b o,b≠s.heap.objs.size→eR.get? b=some o→((eR.update s.heap.objs.size (R3.mapSeq (·.push Qr.none))).update s.heap.objs.size (R3.mapSeq (·.pop))).get? b=some o :=
  fun b o hb e=>(Sf _ _ (Ne.symm hb)).trans ((Sf _ _ (Ne.symm hb)).trans e)
 have NY:s.heap.objs.size≠I:=fun e=>by
  obtain ⟨_,_,hI,_⟩:=st
  rw [← e,zJ] at hI
  have:=congrArg (fun (x:Option R3)=>x.map (·.cls)) hI
  simp at this
 have NX:s.heap.objs.size≠T:=fun e=>by
  rcases FF with z|z
  ·exact Lw (e.trans z)
  ·rw [← e] at z
   exact absurd (z.symm.trans Dm) (by simp)
 have sk:s.heap.objs.size∉[I,S,T]:=by
  simp only [R1,RB,or_false,not_or]
  exact ⟨NY,Lw,NX⟩
 have W:=(xT (prog:=prog) (w:=w) (A:=A.in1) (by simpa using hh) I S T cy (ep:=ep) D hz).toS
 refine Qv ⟨SM PySem.F.plain_extend_loop _,codeAny_extend_loopS W (S5 D.xI) _ sk _ es.size 0 _ _ _ rfl (RC _)
  (st.keep fun b hb o e=>Ml b o (fun z=>sk (z▸hb)) e) Ik (ItemsOf.nil _) fun s' BG c' hm EA uq=>?_⟩
 show QF _ A (load s.heap.objs.size>>=_) _ _ s'
 refine Qq (wpAny_load EA (Qv ?_))
 have nI:s.heap.get? I=none:=by
  cases z:s.heap.get? I with
  | none=>rfl
  | some o=>exact absurd ((Qz _ z).symm.trans hIn) (by simp)
 have Oy:∀ b o,s.heap.get? b=some o→s'.heap.get? b=some o:=fun b o e=>by
  have hb:=Rt e
  have h1:b≠s.heap.objs.size:=RO hb
  have h2:b≠I:=fun z=>by rw [z,nI] at e;cases e
  exact hm.heap b o (by simp only [R1,QO,RB,or_false,not_or];exact ⟨h1,h2⟩) (Ml b o h1 (iY _ _ (Qz _ e)))
 obtain ⟨ns,MW,Jo⟩:=D.tR hp
 have eo:BG.toList=ord:=by
  refine List.ext_getElem? fun i=>?_
  rw [Rx]
  by_cases hi:i<BG.size
  ·have h1:=uq.2 i _ (getElem?_pos BG i hi)
   rw [getElem?_pos BG i hi,h1]
  ·rw [Array.getElem?_eq_none (by exact Ct hi),R6 (by have:=uq.1;exact (ji (ag (aH aa az) (ag (bI (aD aj a7)) (ag (aH a7 az) (aq aa aj))))) hz hi this)]
 obtain ⟨gB,gO,IG,FW,Ga⟩:=s'
 have e1:gO=s.gens:=hm.gens
 have e2:IG=dr:=hm.drawn
 have e3:Ga=s.os:=hm.os
 subst e1 e2 e3
 rw [← eo] at MW
 exact h _ ns gB FW IG Oy MW Jo
end
section
variable {prog:Rn}{w:RE}{A:QE}{E:Qr→Qs→Prop}{s:Qs}
theorem tH {S:Qt}{σ:List Int}{Q:Qr→Qs→Prop}(hh:A.handled=none) (hS:kC prog w s.heap S σ) (qQ:σ.length<64)
  (h:∀ D (out:List Qr) ns e h' tk dr,(∀ b o,s.heap.get? b=some o→h'.get? b=some o)→s.heap.get? D=none→h'.get? D=some (seqObj "list" out.toArray e)→IntsAre out ns→ns.Perm σ→ns.Pairwise (·≤·)→Q (.ref D) { s with heap:=h',toks:=tk,drawn:=dr }) :
  QF (QJ prog w) A (call (.builtin "sorted") [.ref S]) Q E s:=by
 refine Calls.call_function_entry kind_sorted Vg Vh (Vi _) ?_
 unfold Builtin.«sorted»
 refine Qq (m:=checkCount "sorted" 1 1 _) (Qv ?_)
 refine Qq (sN (by simpa using hh) hS fun vs ns h₁ tk dr hk hI hp=>?_)
 have hl:vs.length<64:=by have:=hp.length_eq;have:=IntsAre.length hI;exact (dC (ag (aD aj (ae 64)) (ag (aH az aj) (ag (aH aa az) (aD aa (ae 64)))))) qQ (by assumption) this
 refine Qq (T9 ?_ (by rw [Rq];exact Qx (R9 hl) av))
 show QF _ _ _ _ _ { s with heap:=h₁.push (seqObj "list" vs.toArray 0),toks:=tk,drawn:=dr }
 have Bg:(h₁.push (seqObj "list" vs.toArray 0)).get? h₁.objs.size=some (seqObj "list" vs.toArray 0):=QN _ rfl
 refine Qq (Q0 (Rj UU ⟨_,Bg,rfl⟩ UK (list_sort_tree (s:={ s with heap:=h₁.push (seqObj "list" vs.toArray 0),toks:=tk,drawn:=dr }) Bg hI hl fun out NV a1 a2 a3=>⟨_,rfl,?_⟩) (UW _)))
 obtain ⟨e,he⟩:=sortedHeap_at (out:=out) Bg
 refine Qv ⟨_,rfl,h _ out.toList NV e _ tk dr (fun b o q=>?_) ?_ he a1 (a2.trans hp) a3⟩
 ·have hb:=Rt (hk _ _ q)
  rw [sortedHeap_old (RO hb) (by rw [UT];exact Sr hb)]
  exact Qz _ (hk _ _ q)
 ·cases z:s.heap.get? h₁.objs.size with
  | none=>rfl
  | some o=>exact absurd (Rt (hk _ _ z)) (TH _)
end
noncomputable def jq (ns:List Nat):List Nat:=(range 4096).filter fun k=>ns.contains k
theorem qV (ns:List Int):∀ (i:Nat) (k:Int),k∈firstMet (fun i=>ns.getD i 0) i↔∃ j,j<i∧ns.getD j 0=k:=fun i=>by
 induction i with
 | zero =>
  exact fun k=>by simp [U7]
 | succ i bA =>
  intro k
  rw [Ua]
  have ih:=bA k
  have e:k∈SR (firstMet (fun i=>ns.getD i 0) i) (ns.getD i 0)↔k∈firstMet (fun i=>ns.getD i 0) i∨k=ns.getD i 0:=by
   unfold SR
   split
   ·rename_i h
    obtain ⟨x,hx,hq⟩:=Sg.mp h
    have:=beq_iff_eq.mp hq
    subst this
    exact ⟨.inl,fun h=>h.elim id fun e=>e▸hx⟩
   ·rw [Sh,QO]
  rw [e,ih]
  constructor
  ·rintro (⟨j,h1,h2⟩|h)
   ·exact ⟨j,by exact (cS (ag (aD aa aj) (aD aa (ak aj (ae 1))))) h1,h2⟩
   ·exact ⟨i,by exact @GB _,h.symm⟩
  ·rintro ⟨j,h1,h2⟩
   by_cases q:j=i
   ·subst q;exact .inr h2.symm
   ·exact .inl ⟨j,by exact vn h1 q,h2⟩
theorem oq (ns:List Int):∀ i,(firstMet (fun i=>ns.getD i 0) i).Nodup:=by
 intro i
 induction i with
 | zero =>
  exact by rw [U7];exact .nil
 | succ i bA =>
  rw [Ua]
  unfold SR
  split
  ·exact bA
  ·rename_i h
   refine Th.mpr ⟨bA,by simp,fun a ha b hb e=>?_⟩
   rw [QO] at hb
   subst e hb
   exact h (Sg.mpr ⟨_,ha,by simp⟩)
theorem rG {ns:List Nat}(hn:∀ k∈ns,k<4096) {out:List Int}(hp:out.Perm (firstMet (fun i=>(ns.map fun (k:Nat)=>(k:Int)).getD i 0) ns.length)) (hs:out.Pairwise (·≤·)):out=(jq ns).map fun (k:Nat)=>(k:Int):=by
 have jc:∀ k,k∈out↔∃ m∈ns,(m:Int)=k:=fun k=>by
  rw [hp.mem_iff,qV]
  constructor
  ·rintro ⟨j,h1,h2⟩
   refine ⟨ns[j],SV h1,?_⟩
   rw [← h2];simp [h1]
  ·rintro ⟨m,hm,rfl⟩
   obtain ⟨j,h1,rfl⟩:=Sb hm
   exact ⟨j,h1,by simp [h1]⟩
 have jb:out.Nodup:=hp.nodup_iff.mpr (oq _ _)
 have h2:((jq ns).map fun (k:Nat)=>(k:Int)).Pairwise (·<·):=by
  rw [TM]
  exact (List.pairwise_lt_range.filter _).imp fun h=>by exact (cS (ag (aD aa aj) (cU (aL aa) (aL aj)))) h
 have HL:∀ k,k∈(jq ns).map (fun (k:Nat)=>(k:Int))↔∃ m∈ns,(m:Int)=k:=fun k=>by
  rw [Tg]
  unfold jq
  constructor
  ·rintro ⟨m,hm,rfl⟩
   exact ⟨m,by simpa using (jz hm).2,rfl⟩
  ·rintro ⟨m,hm,rfl⟩
   exact ⟨m,Sx.mpr ⟨R8.mpr (hn m hm),by simpa using hm⟩,rfl⟩
 have h1:out.Pairwise (·<·):=by
  refine (hs.and jb).imp fun h=>?_
  have:=h.1;have:=h.2
  exact (Lq 0 2 [] (ag (dB (bM bc mW) (bI (cu bc mW))) (ag (bI (cu bc mW)) (cU bc mW)))) h this
 refine List.Perm.eq_of_pairwise (le:=(·<·)) (fun a b _ _ h1 h2=>by exact (Lq 0 2 [] (ag (cU bc mW) (ag (cU mW bc) (cu bc mW)))) h1 h2) h1 h2 ?_
 refine (List.perm_ext_iff_of_nodup jb ?_).mpr fun k=>by rw [jc,HL]
 exact h2.imp fun h=>by exact (Lq 0 2 [] (ag (cU bc mW) (bI (cu bc mW)))) h
noncomputable def aI (k:Nat):D:=.int (k:Int)
theorem ve {g:GM}{vw:Nat→Option Qt}:∀ {out:List Qr}{ns:List Nat},IntsAre out (ns.map fun (k:Nat)=>(k:Int))→aB g vw out (ns.map aI)
 | _,[],h=>by cases h;exact .nil
 | _,n::ns,h=>by
  cases h with
  | cons _ t h=>exact .cons (.int _ _) (ve h)
section
variable {X:Cx}{P:bj}{n:Nat}{sc:QM}{ρ af ay:Rw}{b ao b₂:Array UInt8}
theorem SE.wA {np DX pos AW:Rd}{e:QR}{ns:List Nat}(he:SE X n sc e ρ b (.list (ns.map aI)) af ao) (qQ:ns.length<64) (hn:∀ k∈ns,k<4096) (hk:autoParam (sc.names.lookup ("sorted":Qy)=some .globalImplicit) bG) (vH:autoParam (sc.names.lookup ("set":Qy)=some .globalImplicit) bG)
  (cv:autoParam (∀ env,QS [e] env=[(false,eval e env)]) cw):SE X n sc (.Call (.Name "sorted" np) [.Call (.Name "set" DX) [e] [] AW] [] pos) ρ b (.list ((jq ns).map aI)) af ao:=fun A f g o s Q E R aY F q=>by
 refine RG (Bl F (by rw [aY];exact hk) (X.blt ("sorted",.builtin "sorted") av).1 (X.blt ("sorted",.builtin "sorted") av).2 av ?_)
 show QF _ A (callWith pos (.builtin "sorted") [] (backTo pos [(false,eval (.Call (.Name "set" DX) [e] [] AW) f.env)]) []) Q E s
 refine SJ rfl (Rv ?_)
 refine S2 (b5 (x:="set") (T:="set") (ds:=[.list (ns.map aI)]) av R aY F (au he aF (fun env=>by rw [cv];rfl)) vH av (fun env=>⟨_,_,by rw [cv];rfl,rfl⟩) fun vs aE aN ah aA aP r=>?_)
 obtain ⟨_,rfl,r1⟩:=r.wi
 obtain ⟨l,ob,vs,m,rfl,h1,h2,h3,k⟩:=r1.dp
 have hl:=aA.bf _ _ h1
 have hI:ah.heap.IsList l vs.toArray:=⟨ob,hl,h2,m,h3⟩
 have hlen:vs.length=ns.length:=by rw [k.length,Qu]
 have hi:IntsAre vs (ns.map fun (k:Nat)=>(k:Int)):=by
  have:ns.map aI=(ns.map fun (k:Nat)=>(k:Int)).map D.int:=by rw [Rk];rfl
  rw [this] at k
  exact sR k
 refine pv R.1 hI (by simpa using hi) (by rw [QH];unfold scanBound;exact (cS (ag (aD aj (ae 64)) (ag (aH aa aj) (aD (ak aa (ae 1)) (ae 4096))))) qQ hlen) fun h' tk hS hk=>?_
 have Ny:vs.toArray.size=ns.length:=by rw [QH,hlen]
 rw [Ny] at hS
 refine Tu ?_
 obtain ⟨aM,aO⟩:=aA.keeps (h':=h') (tk:=tk) (dr:=ah.drawn) hk
 refine tH (s:={ ah with heap:=h',toks:=tk }) R.1 hS (by have:=Ul (fun i=>(ns.map fun (k:Nat)=>(k:Int)).getD i 0) ns.length;exact (ji (ag (aD aj (ae 64)) (ag (aH az aj) (ag (aH a7 aj) (ag (aq aa aj) (aD aa (ae 64))))))) qQ hlen Ny this) fun D out zs c Iu DB dr j0 hD ho hz hp hs=>?_
 obtain ⟨cA,cO⟩:=aM.fresh (h':=Iu) (tk:=DB) (dr:=dr) j0 hD ho
 have ez:=rG hn hp hs
 subst ez
 exact q _ _ aN _ cA (aP.trans (aO.trans cO)) (.list GM.b7 rfl rfl (ve hz))
theorem we (L:cP X P) (hz:b.size≤1000000) (h0:e8 b 0≠1∧e8 b 0≠2):cb X (n+6) 271 [.ext 0,.int 1] b (.exc b):=by
 obtain ⟨fd,hF⟩:=L.fn 22 _ rfl
 obtain ⟨f1,hB⟩:=L.fn 17 _ rfl
 obtain ⟨f2,hS⟩:=L.fn 10 _ rfl
 have hl:=cR b 0
 exact cb.exc hF rfl av (aG (cj (bp (L.gf 13 _ rfl) hB (au (ai rfl) (au (ai rfl) aF)) (iz L hz)))
  (SS.exc (S1.ME (XT.II (XE.call (L.gf 6 _ rfl) hS (au (ai rfl) aF) (pG L (by rw [QH];exact Qx (RP hl) av) (by rw [QH];exact pO hl) rfl h0))))))
theorem oX (L:cP X P) (hz:b.size≤1000000) (h0:e8 b 0=1) {rs:List Row}(hc:jO (eU b 0) 5 (aZ rs.length 2)) (hl:rs.length<64) (h:lr (eU b 0) 7 rs) (hn:(rs.map (·.1)).Nodup) :
  cb X (n+8) 271 [.ext 0,.int 1] b (.ok (.list ((fg rs).map a8)) b):=by
 obtain ⟨fd,hF⟩:=L.fn 22 _ rfl
 obtain ⟨f1,hB⟩:=L.fn 17 _ rfl
 obtain ⟨f2,hS⟩:=L.fn 10 _ rfl
 obtain ⟨f3,hM⟩:=L.fn 7 _ rfl
 have lC:=cR b 0
 have e0:(((1:Nat):Int)==1)=true:=rfl
 exact bV hF rfl av (aG (cj (bp (L.gf 13 _ rfl) hB (au (ai rfl) (au (ai rfl) aF)) (iz L hz)))
  (bF (S1.qK (e0▸cg (bp (L.gf 6 _ rfl) hS (au (ai rfl) aF) (m5 (k:=1) L (Qx (RP lC) av) (pO lC) h0 (.inl rfl))) (SE.jC L 0 rfl) aQ.vU)
   (bF (bN (SE.qt (bp (L.gf 3 _ rfl) hM (au (ai rfl) aF) (kT L (Qx (RP lC) av) hc (Qx (R9 hl) av) h)) hn hl))))))
theorem XE.extend {x:Qy}{np apos pos:Rd}{e:QR}{ds:List D}(hx:lk ρ x=some (.own ds)) (he:XE X n sc e ρ b ao) (hn:autoParam (okN x=true) bG) (dS:autoParam ((apos.endLine==pos.line)=true) bG)
  (cv:autoParam (∀ env,QS [e] env=[(false,eval e env)]) cw):XE X n sc (.Call (.Attribute (.Name x np) "extend" apos) [e] [] pos) ρ b ao:=fun A f g o s Q E R aY F q=>by
 refine SW rfl (by rw [cv];rfl) dS ?_
 obtain ⟨v,h1,a,vs,m,rfl,h2,h3,h4⟩:=F.vars x _ hx
 refine Rb (aV F.kind h1 (okN.d hn).2 ⟨"list","list.extend",PySem.F.plainAttrs_list,PySem.F.slot_list_extend,PySem.F.type_list_extend,⟨_,h3,rfl⟩,fun c e=>by cases e;exact ⟨_,h3,rfl⟩,?_⟩) (okN.d hn).1
 rw [cv]
 refine SJ rfl (Rv ?_)
 exact S2 (he A f g o s _ E R aY F q)
inductive mF (b:Array UInt8):List Nat→List Row→Bool→Prop
 | nil:mF b [] [] true
 | bad {k:Nat}{ks:List Nat}:e8 b k≠3→mF b (k::ks) [] false
 | cons {k:Nat}{ks:List Nat}{rs Ap:List Row}{ok:Bool}:e8 b k=3→jO (eU b k) 2 (aZ rs.length 2)→rs.length≤100→mG (eU b k) 16 rs→mF b ks Ap ok→mF b (k::ks) (rs++Ap) ok
structure L3 (acc:List D) (ρ:Rw):Prop where
 v:lk ρ ("view":Qy)=some (.val (.ext 0))
 o:lk ρ ("object_now":Qy)=some (.val (.int 1))
 z:lk ρ ("size":Qy)=some (.val (.int 256))
 f:lk ρ ("found":Qy)=some (.own acc)
theorem xP (L:cP X P) (hz:b.size≤1000000) {ks:List Nat}{rs:List Row}{ok:Bool}(h:mF b ks rs ok):∀ (acc:List D) (ρ:Rw),acc.length+rs.length≤10000→L3 acc ρ →
  ∃ ρ',ey X (n+9) (aw (top 41)) (dq (bD (top 41) 3)) (aX (bD (top 41) 3)) (ks.map aI) ρ b (if ok=true then .next ρ' b else .exc b)∧(ok=true→L3 (acc++rs.map a8) ρ'):=by
 obtain ⟨f7,hK⟩:=L.fn 18 _ rfl
 obtain ⟨f8,hR⟩:=L.fn 14 _ rfl
 have lC:=cR b
 induction h with
 | nil=>exact fun acc ρ _ I=>⟨ρ,.nil,fun _=>by simpa using I⟩
 | @bad k ks h3 =>
  intro acc ρ hc I
  refine ⟨ρ,.exc (.name av (by intro h;cases h)) (SS.exc (S1.zT (XE.extend (aR I.f) (XE.call (L.gf 10 _ rfl) hR (au (bp (L.gf 14 _ rfl) hK (au (ai (aR I.v)) (au (ai (aR I.o)) (au (ai (aR rfl)) (au (ai (aR I.z)) aF)))) (rf L hz)) aF) (rX L (by rw [lC];exact @B5) (by rw [lC];exact @Gp) h3))))),fun h=>nomatch h⟩
 | @cons k ks rs Ap ok h3 h2 hl hr _ ih =>
  intro acc ρ hc I
  rw [QA] at hc
  have I1:L3 (acc++rs.map a8) (aS (aS ρ "leaf" (.val (.int (k:Int)))) "found" (.own (acc++rs.map a8))) :=
   ⟨aR (aR I.v),aR (aR I.o),aR (aR I.z),aR rfl⟩
  obtain ⟨ρ',hT,hI⟩:=ih (acc++rs.map a8) _ (by rw [QA,Qu];exact (dC (ag (aq (ak aa (ak aj az)) (ae 10000)) (aq (ak (ak aa aj) az) (ae 10000)))) hc) I1
  refine ⟨ρ',.next (.name av (by intro h;cases h)) (aG (dI (SE.extend (aR I.f) (bp (L.gf 10 _ rfl) hR (au (bp (L.gf 14 _ rfl) hK (au (ai (aR I.v)) (au (ai (aR I.o)) (au (ai (aR rfl)) (au (ai (aR I.z)) aF)))) (rf L hz)) aF) (rY L (by rw [lC];exact @B5) h3 h2 (Qx hl av) hr)) (aR I.f) (by rw [Qu];exact (dC (ag (aq (ak aa (ak aj az)) (ae 10000)) (aq (ak aa aj) (ae 1000000)))) hc))) bX) hT,fun h=>?_⟩
  have e:acc++(rs++Ap).map a8=acc++rs.map a8++Ap.map a8:=by rw [Rc,Q9]
  rw [e]
  exact hI h
end
theorem pK (l:List UInt8) (i m j k:Nat) (h:j+k≤m):((dR l i m).drop j).take k=dR l (i+j) k:=by
 rw [kO,kO]
 refine SX (by simp;exact (Lq 3 0 [b9 aj az,AF aa a7] (ag (aq (ak az aa) aj) (aH cM aa))) h) fun a h1 h2=>?_
 simp [Nat.add_assoc]
section
variable {X:Cx}{P:bj}{n:Nat}{sc:QM}{ρ af ay:Rw}{b ao b₂:Array UInt8}
theorem yd (L:cP X P) {a2 a3 a4:Int}{bits tb:Nat}{tl:List Nat}(hz:b.size≤1000000) (hb:bits≤3) (hl:tl.length=2 ^ bits) (ht:∀ i k,tl[i]?=some k→TabAt b tb i k∧k<4096) :
  cb X (n+3) 259 [.ext 0,.int 1,.inst 1 (zP (bits:Int) a2 a3 a4 (tb:Int)),.int 256] b (.ok (.list (tl.map aI)) b):=by
 have h:=tE (n:=n) (a2:=a2) (a3:=a3) (a4:=a4) (bits:=bits) (tb:=tb) (m:=256) L hz hb av
 have e:((range (2 ^ bits)).map fun i=>D.int (dD (((dR b.toList (tb*256) (4*2 ^ bits)).drop (4*i)).take 4)))=tl.map aI:=by
  refine SX (by rw [Qu,Qu,Q6,hl]) fun i h1 h2=>?_
  rw [List.getElem_map,List.getElem_map,TF]
  have hi:i<tl.length:=by simpa using h2
  obtain ⟨k1,k2⟩:=ht i tl[i] (QI hi)
  rw [pK _ _ _ _ _ (by exact (dC (ag (aH az aj) (ag (aD aa az) (aq (ak (dO 4 aa) (ae 4)) (dO 4 aj))))) hl hi)]
  unfold TabAt at k1
  rw [k1,nQ 4 _ (by exact (dC (ag (aD aj az) (ag (aD aa (ae 4096)) (aD aa (ae (256 ^ 4)))))) hi k2)];rfl
 rw [e] at h
 exact h
theorem mc (L:cP X P) (hz:b.size≤1000000) {bits salt many behind tb:Nat}(H:BQ b bits salt many behind tb) {tl:List Nat}(hl:tl.length=2 ^ bits) (ht:∀ i k,tl[i]?=some k→TabAt b tb i k∧k<4096)
  {rs:List Row}{ok:Bool}(hL:mF b (jq tl) rs ok) (qQ:rs.length<64) (hn:(rs.map (·.1)).Nodup) :
  cb X (n+10) 271 [.ext 0,.int 1] b (if ok=true then .ok (.list ((fg rs).map a8)) b else .exc b):=by
 obtain ⟨fd,hF⟩:=L.fn 22 _ rfl
 obtain ⟨f1,hB⟩:=L.fn 17 _ rfl
 obtain ⟨f2,hS⟩:=L.fn 10 _ rfl
 obtain ⟨f3,hH⟩:=L.fn 9 _ rfl
 obtain ⟨f5,hT⟩:=L.fn 20 _ rfl
 have lC:=cR b 0
 have hb:=H.bits
 have e0:(((2:Nat):Int)==1)=false:=rfl
 have LU:KBy.picked (eU b 0).toArray none (some 18)=((eU b 0).take 18).toArray:=lQ (eU b 0).toArray 18
 have ez:(((eU b 0).toArray.size:Nat):Int)=256:=by rw [QH,lC];rfl
 have hp:2 ^ bits≤8:=by
  have:(2:Nat) ^ bits≤2 ^ 3:=Q3 av hb
  exact this
 have hA:=zS (n:=n+3) (b:=b) L (x:=(eU b 0).take 18) (by rw [SH];exact B4 lC) (H.at_.BW (by unfold ix;simp only [QA,ax,QC,QP];exact @B3)) (Q8 hb av) H.salt H.many H.behind H.tb
 obtain ⟨ρ',hR,hI⟩:=xP (n:=n) L hz hL [] (stores (aS ((["view","object_now"]:List Qy).zip (([.ext 0,.int 1]:List D).map En.val)) "octets" (.val (.bytes (eU b 0).toArray))) ((["found","size"]:List Qy).reverse.zip ([.own [],.val (.int 256)]:List En).reverse))
  (by rw [QP];exact (dW (ag (aD aa (ae 64)) (aq (ak (ae 0) aa) (ae 10000)))) qQ) ⟨rm,rm,rm,rm⟩
 have pre:∀ {r:Fl},SS X (n+9) (aw (top 41)) ((bodyOf (top 41)).drop 3) (stores (aS ((["view","object_now"]:List Qy).zip (([.ext 0,.int 1]:List D).map En.val)) "octets" (.val (.bytes (eU b 0).toArray))) ((["found","size"]:List Qy).reverse.zip ([.own [],.val (.int 256)]:List En).reverse)) b r →
   SS X (n+9) (aw (top 41)) (bodyOf (top 41)) ((["view","object_now"]:List Qy).zip (([.ext 0,.int 1]:List D).map En.val)) b r:=fun {r} q =>
  aG (cj (bp (L.gf 13 _ rfl) hB (au (ai rfl) (au (ai rfl) aF)) (iz L hz)))
  (aG (S1.kI (e0▸cg (bp (L.gf 6 _ rfl) hS (au (ai rfl) aF) (m5 (k:=2) L (Qx (RP lC) av) (pO lC) H.h0 (.inr rfl))) (SE.jC L 0 rfl) aQ.vU) bX)
  (aG (S1.gP (i4.cons (SF.lst aF) (i4.cons (SF.ip (ez▸SE.pd (ai rfl) (by rw [QH];exact Qx (RP lC) av))) i4.nil)) rfl av (by rintro ⟨⟩ h;subst h;rfl)) q))
 have iter:IT X (n+9) (aw (top 41)) false (dq (bD (top 41) 3)) (match bD (top 41) 3 with|.For _ i _ _ _=>i|_=>.Name "" default) (stores (aS ((["view","object_now"]:List Qy).zip (([.ext 0,.int 1]:List D).map En.val)) "octets" (.val (.bytes (eU b 0).toArray))) ((["found","size"]:List Qy).reverse.zip ([.own [],.val (.int 256)]:List En).reverse)) b ((jq tl).map aI)
   (stores (aS ((["view","object_now"]:List Qy).zip (([.ext 0,.int 1]:List D).map En.val)) "octets" (.val (.bytes (eU b 0).toArray))) ((["found","size"]:List Qy).reverse.zip ([.own [],.val (.int 256)]:List En).reverse)) b :=
  IT.list (SE.wA (bp (L.gf 16 _ rfl) hT (au (ai rfl) (au (ai rfl) (au (bp (L.gf 5 _ rfl) hH (au (LU▸SE.o7 (ai rfl) .none (.some (SE.jC L 4 rfl)) (by rw [QH];exact Qx (RP lC) av)) aF) hA) (au (ai rfl) aF)))) (yd L hz hb hl ht)) ((cS (ag (aH aa aj) (ag (aq aj (ae 8)) (aD aa (ae 64))))) hl hp) (fun k hk=>by
   obtain ⟨i,hi,rfl⟩:=Sb hk
   exact (ht i _ (QI hi)).2))
 cases ok with
 | true =>
  have I':=hI rfl
  exact bV hF rfl av (pre (aG (S1.For iter hR) (bF (bN (SE.qt (SE.my I'.f) hn qQ)))))
 | false=>exact cb.exc hF rfl av (pre (SS.exc (S1.For iter hR)))
end
theorem uG:∀ (k n:Nat),aZ n k=(range k).map fun p=>n / 256 ^ p % 256:=fun k=>by
 induction k with
 | zero =>
  exact fun _=>rfl
 | succ k bA =>
  intro n
  rw [aZ,List.range_succ_eq_map,QT,Rk,bA]
  congr 1
  ·simp
  ·refine SD fun p _=>?_
   simp only [Function.comp_apply]
   rw [Nat.div_div_eq_div_mul,T5,Nat.mul_comm]
noncomputable def jI (ns:List Int) (k:Nat):Int:=ns.getD k (3*(k:Int)+1)
section
variable {X:Cx}{P:bj}{n:Nat}{sc:QM}{ρ af ay:Rw}{b ao b₂:Array UInt8}
theorem SE.jW {e:QR}{i j:Int}(h:SE X n sc e ρ b (.int i) af ao) (q:i=j):SE X n sc e ρ b (.int j) af ao:=q▸h
theorem SE.wu {e:QR}{i j:List D}(h:SE X n sc e ρ b (.list i) af ao) (q:i=j):SE X n sc e ρ b (.list j) af ao:=q▸h
theorem ST.bY {e:QR}{i j:Bool}(h:ST X n sc e ρ b i af ao) (q:i=j):ST X n sc e ρ b j af ao:=q▸h
theorem kq (L:Lib0 X) {ns:List Int}{k:Nat}(hz:ns.length≤1000) (hk:k≤1000):cb X (n+1) 427 [.list (ns.map D.int),.int (k:Int)] b (.ok (.int (jI ns k)) b):=by
 obtain ⟨fd,hF⟩:=L.fn 28 _ rfl
 have hl:(ns.map D.int).length=ns.length:=Qu ..
 have el:(((ns.map D.int).length:Nat):Int)=(ns.length:Int):=by rw [hl]
 by_cases h:k<ns.length
 ·have e:decide ((k:Int)<(ns.length:Int))=true:=decide_eq_true (by exact (dC (ag (aH az aj) (ag (aD aa aj) (cU (aL aa) (aL aj))))) hl h)
  have e1:jI ns k=ns[k]:=by unfold jI;simp [h]
  rw [e1]
  exact bV hF rfl av (bF (bN (SE.qK (e▸cg (ai rfl) (el▸SE.nY (ai rfl) (by exact (dC (ag (aq aj (ae 1000)) (ag (aH aa aj) (ag (aD az aj) (aq aa (ae 1000000)))))) hz hl h)) aQ.ltI) (SE.gA (ai rfl) (ai rfl) (by exact (cS (ag (aq aa (ae 1000)) (ag (aD aa aj) (bM (aJ 0) (aL aa))))) hk h) (by exact (cS (ag (aq aa (ae 1000)) (ag (aD aa aj) (cU (aL aa) (aJ (2 ^ 63)))))) hk h) (by rw [QW,QU,QI h];rfl)))))
 ·have e:decide ((k:Int)<(ns.length:Int))=false:=decide_eq_false (by exact (dC (ag (aH az aj) (ag (bI (aD aa aj)) (bI (cU (aL aa) (aL aj)))))) hl h)
  have e1:jI ns k=3*(k:Int)+1:=by unfold jI;rw [Qw,R6 (by exact (dC (ag (aH az aa) (ag (bI (aD aj aa)) (aq aa aj)))) hl h)];rfl
  rw [e1]
  exact bV hF rfl av (bF (bN (SE.kI (e▸cg (ai rfl) (el▸SE.nY (ai rfl) (by exact (cS (ag (aq aj (ae 1000)) (ag (aH aa aj) (aq aa (ae 1000000))))) hz hl)) aQ.ltI) (cZ (dH aC (ai rfl) (.of_left (PySem.intBits_le_64 av av))) aC))))
theorem bE (L:cP X P) {k m:Nat}(hm:m≤8):cb X (n+1) 432 [.int (k:Int),.int (m:Int)] b (.ok (.list ((aZ k m).map aI)) b):=by
 obtain ⟨fd,hF⟩:=L.fn 29 _ rfl
 have hlen:((range ((m:Int)).toNat).map fun (i:Nat)=>D.int (i:Int)).length≤100000:=by
  rw [Qu,Q6];exact (Lq 1 0 [gk (aL aa)] (ag (aq aa (ae 8)) (aq aj (ae 100000)))) hm
 have eo:(aZ k m).map aI=(((range ((m:Int)).toNat).map fun (i:Nat)=>D.int (i:Int)).map fun d=>aI (k / 256 ^ (jX d).toNat % 256)):=by
  rw [uG,Rk,Rk];rfl
 rw [eo]
 exact bV hF rfl av (bF (bN (i7 (own:=false) (fW:=["number"]) (mH (ai rfl) (by exact (dW (ag (aq aa (ae 8)) (bM (xN (aJ (2 ^ 62))) (aL aa)))) hm) (by exact (dW (ag (aq aa (ae 8)) (cU (aL aa) (aJ (2 ^ 62))))) hm)) av (.cons rfl .nil) (.cons rfl .nil) (bQ.all (fun ρ=>lk ρ ("number":Qy)=some (.val (.int (k:Int)))) _ _ (fun d hd ρ hI=>by
   obtain ⟨i,hi,rfl⟩:=dj hd
   have pf:=R8.mp hi
   have hp:((256:Int) ^ ((i:Int)).toNat)=((256 ^ i:Nat):Int):=by simp
   have EF:256 ^ i<2 ^ 64:=by
    have:256 ^ i≤256 ^ 7:=Q3 av (by exact (Lq 2 0 [gk (aL aj)] (ag (aq aj (ae 8)) (ag (aD aa az) (aq aa (ae 7))))) hm pf)
    have:(256:Nat) ^ 7<2 ^ 64:=av
    exact (dW (ag (aq aa (ae (256 ^ 7))) (aD aa (ae (2 ^ 64))))) (by assumption)
   have h0:0<256 ^ i:=Ti av
   have ev:((k:Int).fdiv ((256:Int) ^ ((i:Int)).toNat)).fmod 256=((k / 256 ^ i % 256:Nat):Int):=by
    rw [hp,zQ,show (256:Int)=((256:Nat):Int) from rfl,oi]
   exact ⟨_,.name av av,(aR ‹_›),SE.jW (cK (gK (ai (aR ‹_›)) (SE.pow aC (ai (aR rfl)) (by exact @pb _) (by exact (Lq 2 0 [gk (aL aj)] (ag (aq aj (ae 8)) (ag (aD aa az) (bM (aL aa) (aJ 1000000))))) hm pf) av) (by rw [hp];exact CT EF h0) (by rw [hp,Int.natAbs_natCast];have:=(Nat.log2_lt (by exact CS EF h0)).mpr EF;exact RF this av)) aC av) ev⟩) _ rfl) hlen)))
abbrev aU:=Nat×Nat
noncomputable def ba (l:aU):D:=.tup [.int (l.1:Int),.int (l.2:Int)]
noncomputable def mQ (told:Nat) (l:aU):Bool:=told / 2 ^ (32-l.1)==l.2
noncomputable def a6 (ls:List aU) (told:Nat):Nat:=ls.findIdx (mQ told)
theorem sJ (p:aU→Bool):∀ (ls:List aU) (i:Nat),(((ls.zipIdx i).filter (fun x=>p x.1)).map (·.2)).head?=if ls.any p=true then some (i+ls.findIdx p) else none:=fun ls=>by
 induction ls with
 | nil =>
  exact fun i=>by simp
 | cons l r bA =>
  intro i
  rw [List.zipIdx_cons,List.filter_cons]
  by_cases h:p l=true
  ·simp [h,TO]
  ·have ih:=bA (i+1)
   simp only [h,if_false,UO,Bool.false_or,TO,cond_false,S8] at ih ⊢
   rw [ih]
   split
   ·congr 1;exact @CR _ _
   ·rfl
theorem fH (L:cP X P) {ls:List aU}{told:Nat}(hz:ls.length≤1000) (hd:∀ l∈ls,l.1≤32) (ha:ls.any (mQ told)=true):cb X (n+1) 454 [.list (ls.map ba),.int (told:Int)] b (.ok (.int (a6 ls told:Int)) b):=by
 obtain ⟨fd,hF⟩:=L.fn 33 _ rfl
 have jc:∀ d∈(dF (ls.map ba)).map D.tup,∃ (i:Nat) (l:aU),l∈ls∧d=.tup [.int (i:Int),ba l]:=fun d hd=>by
  obtain ⟨l,hl,rfl⟩:=dj hd
  obtain ⟨i,hi⟩:=List.getElem?_of_mem hl
  obtain ⟨d',h1,rfl⟩:=jU hi
  rw [QU] at h1
  obtain ⟨c,h2,rfl⟩:=rO h1
  exact ⟨i,c,Q1 h2,rfl⟩
 have hlen:((dF (ls.map ba)).map D.tup).length≤100000:=by
  rw [Qu,gb,Qu];exact Qx hz av
 have g4:((((dF (ls.map ba)).map D.tup).filter fun d=>match d with|.tup [_,.tup [.int a,.int c]]=>mQ told (a.toNat,c.toNat)|_=>false).map fun d=>match d with|.tup [k,_]=>k|_=>.none)=(((ls.zipIdx 0).filter (fun x=>mQ told x.1)).map (·.2)).map aI:=by
  have e:(dF (ls.map ba)).map D.tup=(ls.zipIdx 0).map fun x=>D.tup [aI x.2,ba x.1]:=by
   refine SX (by simp [dF]) fun i h1 h2=>?_
   simp [dF,aI]
  rw [e,List.filter_map,Rk,Rk]
  rfl
 have hh:((((ls.zipIdx 0).filter (fun x=>mQ told x.1)).map (·.2)).map aI)[(0:Int).toNat]?=some (.int (a6 ls told:Int)):=by
  have:=sJ (mQ told) ls 0
  rw [ha,if_pos rfl,Sk] at this
  show ((((ls.zipIdx 0).filter (fun x=>mQ told x.1)).map (·.2)).map aI)[0]?=_
  rw [QU,← List.head?_eq_getElem?,this];rfl
 exact bV hF rfl av (bF (bN (SE.gA (SE.wu (i7 (own:=false) (fW:=["told"]) (IT.Dp (ai rfl)) av (.cons rfl .nil) (.cons rfl .nil) (bQ.some (fun ρ=>lk ρ ("told":Qy)=some (.val (.int (told:Int)))) _ _ _ (fun d oV ρ hI=>by
   obtain ⟨i,l,hl,rfl⟩:=jc d oV
   have Bh:=hd l hl
   have hp:((2:Int) ^ (32-(l.1:Int)).toNat)=((2 ^ (32-l.1):Nat):Int):=by
    rw [show (32-(l.1:Int)).toNat=32-l.1 by exact CQ Bh];simp
   have fE:2 ^ (32-l.1)<2 ^ 64:=by
    have:2 ^ (32-l.1)≤2 ^ 32:=Q3 av (by exact (Lq 1 0 [b9 (ae 32) aa] (ag (aq aa (ae 32)) (aq aj (ae 32)))) Bh)
    exact Gq this
   have h0:0<2 ^ (32-l.1):=Ti av
   have ev:(((told:Int).fdiv ((2:Int) ^ (32-(l.1:Int)).toNat))==(l.2:Int))=mQ told (((l.1:Int)).toNat,((l.2:Int)).toNat):=by
    rw [hp,zQ,QW,QW]
    unfold mQ
    by_cases q:told / 2 ^ (32-l.1)=l.2
    ·simp [q]
    ·rw [beq_eq_false_iff_ne.mpr q,beq_eq_false_iff_ne.mpr (by exact wX q)]
   exact ⟨_,.tup (xs:=["k","leaf"]) (.cons (.cons .nil)) rfl av av,(aR (aR ‹_›)),ST.bY (cg (gK (ai (aR (aR ‹_›))) (SE.pow aC (SE.sub aC (SE.n5 (ai (aR rfl)) aC av av rfl)) (by exact (dW (ag (aq aa (ae 32)) (bM (aJ 0) (fy (aJ 32) (aL aa))))) Bh) (by exact (dW (ag (aq aa (ae 32)) (bM (fy (aJ 32) (aL aa)) (aJ 1000000)))) Bh) av) (by rw [hp];exact CT fE h0) (by rw [hp,Int.natAbs_natCast];have:=(Nat.log2_lt (by exact CS fE h0)).mpr fE;exact RF this av)) (SE.n5 (ai (aR rfl)) aC av av rfl) aQ.vU) ev,fun _=>ai (aR (aR rfl))⟩) _ rfl) hlen) g4) aC av av hh)))
end
noncomputable def br:Qy:="corrupt"
noncomputable def jV.vR:jV→D
 | .num k=>aI k
 | .none=>.none
 | .exc=>.str br
section
variable {X:Cx}{P:bj}{n:Nat}{sc:QM}{ρ af ay:Rw}{b ao b₂:Array UInt8}
theorem gR (L:cP X P) {nm:List Nat}{a:jV}(h:cb X n 264 [.ext 0,.int 1,.str (bR nm)] b (a.rs b)):cb X (n+1) 471 [.ext 0,.str (bR nm)] b (.ok a.vR b):=by
 obtain ⟨fd,hF⟩:=L.fn 36 _ rfl
 obtain ⟨f1,hZ⟩:=L.fn 21 _ rfl
 cases a with
 | num k=>exact bV hF rfl av (bF (S1.tw (bF (bN (bp (L.gf 17 _ rfl) hZ (au (ai rfl) (au aC (au (ai rfl) aF))) h)))))
 | none=>exact bV hF rfl av (bF (S1.tw (bF (bN (bp (L.gf 17 _ rfl) hZ (au (ai rfl) (au aC (au (ai rfl) aF))) h)))))
 | exc=>exact bV hF rfl av (bF (S1.xY L.FI (SS.exc (S1.DK (XE.call (L.gf 17 _ rfl) hZ (au (ai rfl) (au aC (au (ai rfl) aF))) h)))))
theorem jT (L:cP X P) {rs:Option (List Row)} (h:cb X n 271 [.ext 0,.int 1] b (match rs with|some rs=>.ok (.list (rs.map a8)) b|none=>.exc b)):cb X (n+1) 478 [.ext 0] b (.ok (match rs with|some rs=>.list (rs.map a8)|none=>.str br) b):=by
 obtain ⟨fd,hF⟩:=L.fn 37 _ rfl
 obtain ⟨f1,hZ⟩:=L.fn 22 _ rfl
 cases rs with
 | some rs=>exact bV hF rfl av (bF (S1.tw (bF (bN (bp (L.gf 18 _ rfl) hZ (au (ai rfl) (au aC aF)) h)))))
 | none=>exact bV hF rfl av (bF (S1.xY L.FI (SS.exc (S1.DK (XE.call (L.gf 18 _ rfl) hZ (au (ai rfl) (au aC aF)) h)))))
end
noncomputable def mJ (r:Row):QG:=.tuple [.str (bR r.1),.int (r.2:Int)]
theorem iq {α:Type}(f:α→QG) (g:α→D) (h:∀ a,ofPy (f a)=g a):∀ l:List α,ofPys (l.map f)=l.map g:=by
 intro l
 induction l with
 | nil =>
  exact rfl
 | cons a r bA =>
  exact by rw [QT,QT,ofPys,h,bA]
theorem iQ {α:Type}(f:α→QG):∀ l:List α,(∀ a∈l,(f a).canLay0=true)→QG.canLayAll0 (l.map f)=true:=by
 intro l
 induction l with
 | nil =>
  exact fun _=>rfl
 | cons a r bA =>
  intro h
  rw [QT]
  unfold QG.canLayAll0
  rw [h a QB,bA fun b hb=>h b (QD _ hb)];rfl
theorem qc {α:Type}(f:α→QG) (k:Nat):∀ l:List α,(∀ a∈l,(f a).depth≤k)→QG.depthAll (l.map f)≤k:=by
 intro l
 induction l with
 | nil =>
  exact fun _=>by simp [QG.depthAll]
 | cons a r bA =>
  intro h
  rw [QT]
  unfold QG.depthAll
  have h1:=h a QB
  have h2:=bA fun b hb=>h b (QD _ hb)
  exact (Lq 3 0 [oQ aa aj] (ag (aq aa az) (ag (aq aj az) (aq a7 az)))) h1 h2
theorem nE {nm:List Nat}(h:∀ c∈nm,c<1114112):QG.strOk (bR nm)=true:=by
 unfold QG.strOk bR
 rw [Array.all_eq_true]
 intro i hi
 have:nm.toArray[i]∈nm:=by simp
 exact decide_eq_true (h _ this)
theorem gx {x:Qy}(h:QG.strOk x=true):shaped (.str x)=true:=by
 unfold shaped QG.canLay0 QG.depth
 rw [h];rfl
theorem vb {r:Row}(h:∀ c∈r.1,c<1114112):(mJ r).canLay0=true∧(mJ r).depth≤1:=by
 unfold mJ
 simp only [QG.canLay0,QG.canLayAll0,QG.depth,QG.depthAll,nE h,Bool.and_self]
 exact ⟨trivial,by exact @Hc⟩
theorem jo {rs:List Row}(h:∀ r∈rs,∀ c∈r.1,c<1114112):shaped (.list (rs.map mJ))=true:=by
 unfold shaped
 have h1:=iQ mJ rs fun r hr=>(vb (h r hr)).1
 have h2:=qc mJ 1 rs fun r hr=>(vb (h r hr)).2
 simp only [QG.canLay0,h1,QG.depth,Bool.true_and]
 exact decide_eq_true (yR h2)
theorem fv:QG.strOk br=true:=by decide +kernel
noncomputable def gQ (a c:Nat):QG:=.tuple [.int (a:Int),.int (c:Int)]
theorem sH (a c d e:Nat):QG.eqv (gQ a c) (gQ d e)=decide (a=d∧c=e):=by
 unfold gQ
 simp only [QG.eqv,QG.eqvAll]
 by_cases h:a=d<;>by_cases k:c=e<;>simp [h,k]<;>(first|exact wX k|exact wX h|exact (ji (ag (bI (aH az a7)) (ag (cu (aL aa) (aL aj)) (bI (cu (aL az) (aL a7)))))) k)
noncomputable def nT:Option (Nat×Nat)→QG
 | none=>.none
 | some x=>gQ x.1 x.2
noncomputable def kc:Option (Nat×Nat)→D
 | none=>.none
 | some x=>.tup [.int (x.1:Int),.int (x.2:Int)]
theorem vA (x:Option (Nat×Nat)):kc x=ofPy (nT x):=by cases x<;>rfl
theorem mz (x:Option (Nat×Nat)):shaped (nT x)=true:=by cases x<;>rfl
theorem zV (x:Option (Nat×Nat)) (a c:Nat):QG.eqv (nT x) (gQ a c)=decide (x=some (a,c)):=by
 cases x with
 | none=>simp [nT,gQ,QG.eqv]
 | some y =>
  obtain ⟨d,e⟩:=y
  show QG.eqv (gQ d e) (gQ a c)=_
  rw [sH]
  simp
noncomputable def jV.P:jV→QG
 | .num k=>.int (k:Int)
 | .none=>.none
 | .exc=>.str br
theorem jV.of (a:jV):a.vR=ofPy a.P:=by cases a<;>rfl
theorem jV.Ff (a:jV):shaped a.P=true:=by
 cases a
 ·rfl
 ·rfl
 ·exact gx fv
noncomputable def i8:Option Nat→D
 | none=>.none
 | some k=>aI k
noncomputable def e7 (ls:List aU) (salt:Nat) (bad:List Nat) (looped:Option (Nat×Nat)) (nm:List Nat) (num:Option Nat):jV :=
 if a6 ls (aT nm salt)∈bad∨(num=none∧looped=some (a6 ls (aT nm salt),aT nm salt % 4)) then .exc else match num with
  | some k=>.num k
  | none=>.none
abbrev Ent:=List Nat×Option Nat
noncomputable def EN (e:Ent):D:=.tup [.str (bR e.1),i8 e.2]
structure LsOk (ls:List aU):Prop where
 xI:ls.length≤100
 dep:∀ l∈ls,l.1≤32
 all:∀ told,told<4294967296→ls.any (mQ told)=true
section
variable {X:Cx}{P:bj}{n:Nat}{sc:QM}{ρ af ay:Rw}{b ao b₂:Array UInt8}
structure AB (salt:Nat) (ls:List aU) (rs:List Row) (bad:List Nat) (looped:Option (Nat×Nat)) (ρ:Rw):Prop where
 v:lk ρ ("view":Qy)=some (.val (.ext 0))
 s:lk ρ ("salt":Qy)=some (.val (.int (salt:Int)))
 l:lk ρ ("leaves":Qy)=some (.val (.list (ls.map ba)))
 r:lk ρ ("rows":Qy)=some (.val (.list (rs.map a8)))
 b:lk ρ ("bad":Qy)=some (.val (.list (bad.map aI)))
 o:lk ρ ("looped":Qy)=some (.val (kc looped))
theorem AB.put {salt:Nat}{ls:List aU}{rs:List Row}{bad:List Nat}{looped:Option (Nat×Nat)} {ρ:Rw}(I:AB salt ls rs bad looped ρ) (x:Qy) (e:En) (h:x∉(["view","salt","leaves","rows","bad","looped"]:List Qy)):AB salt ls rs bad looped (aS ρ x e):=by
 simp only [R1,RB,or_false,not_or] at h
 obtain ⟨h1,h2,h3,h4,h5,h6⟩:=h
 exact ⟨aR ((if_neg (Ne.symm h1)).trans I.v),aR ((if_neg (Ne.symm h2)).trans I.s),aR ((if_neg (Ne.symm h3)).trans I.l),aR ((if_neg (Ne.symm h4)).trans I.r),aR ((if_neg (Ne.symm h5)).trans I.b),aR ((if_neg (Ne.symm h6)).trans I.o)⟩
theorem ze (bad:List Nat) (k:Nat):((bad.map fun (k:Nat)=>QG.int (k:Int)).any fun y=>QG.eqv y (.int (k:Int)))=decide (k∈bad):=by
 rw [Bool.eq_iff_iff,Sg,decide_eq_true_iff]
 constructor
 ·rintro ⟨y,hy,h⟩
  obtain ⟨m,hm,rfl⟩:=dj hy
  simp only [QG.eqv,beq_iff_eq] at h
  have:m=k:=by exact (cS (ag (cu (aL aa) (aL aj)) (aH aa aj))) h
  exact this▸hm
 ·intro h
  exact ⟨_,fV ⟨k,h,rfl⟩,by simp [QG.eqv]⟩
theorem ue (o:Option Nat):(i8 o).isNone=o.isNone:=by cases o<;>rfl
theorem wk (L:cP X P) {salt:Nat}{ls:List aU}{rs:List Row}{bad:List Nat}{looped:Option (Nat×Nat)} (g5:LsOk ls) (g6:bad.length≤100) {nm:List Nat}{num:Option Nat}(hf:cb X (n+2) 471 [.ext 0,.str (bR nm)] b (.ok (e7 ls salt bad looped nm num).vR b))
  {ρ:Rw}(I:AB salt ls rs bad looped ρ):∃ ρ' af,pA (aw (top 60)) false (dq (bD (top 60) 2)) (EN (nm,num)) ρ ρ'∧SS X (n+2) (aw (top 60)) (aX (bD (top 60) 2)) ρ' b (.next af b)∧AB salt ls rs bad looped af:=by
 obtain ⟨f1,hZ⟩:=L.fn 15 _ rfl
 obtain ⟨f2,hP⟩:=L.fn 33 _ rfl
 obtain ⟨f3,hD⟩:=L.fn 36 _ rfl
 have hk:=eH nm salt
 have I1:=(I.put "name" (.val (.str (bR nm))) av).put "number" (.val (i8 num)) av
 have n1:lk (aS (aS ρ "name" (.val (.str (bR nm)))) "number" (.val (i8 num))) ("name":Qy)=some (.val (.str (bR nm))):=aR (aR rfl)
 have m1:lk (aS (aS ρ "name" (.val (.str (bR nm)))) "number" (.val (i8 num))) ("number":Qy)=some (.val (i8 num)):=aR rfl
 generalize pe:aS (aS ρ "name" (.val (.str (bR nm)))) "number" (.val (i8 num))=ek at I1 n1 m1
 have I2:=I1.put "told" (.val (.int (aT nm salt:Int))) av
 have n2:lk (aS ek "told" (.val (.int (aT nm salt:Int)))) ("name":Qy)=some (.val (.str (bR nm))):=aR n1
 have m2:lk (aS ek "told" (.val (.int (aT nm salt:Int)))) ("number":Qy)=some (.val (i8 num)):=aR m1
 have t2:lk (aS ek "told" (.val (.int (aT nm salt:Int)))) ("told":Qy)=some (.val (.int (aT nm salt:Int))):=aR rfl
 generalize Kr:aS ek "told" (.val (.int (aT nm salt:Int)))=ej at I2 n2 m2 t2
 have I3:=(I2.put "due" (.val (i8 num)) av).put "place" (.val (.int (a6 ls (aT nm salt):Int))) av
 have n3:lk (aS (aS ej "due" (.val (i8 num))) "place" (.val (.int (a6 ls (aT nm salt):Int)))) ("name":Qy)=some (.val (.str (bR nm))):=aR (aR n2)
 have m3:lk (aS (aS ej "due" (.val (i8 num))) "place" (.val (.int (a6 ls (aT nm salt):Int)))) ("number":Qy)=some (.val (i8 num)):=aR (aR m2)
 have t3:lk (aS (aS ej "due" (.val (i8 num))) "place" (.val (.int (a6 ls (aT nm salt):Int)))) ("told":Qy)=some (.val (.int (aT nm salt:Int))):=aR (aR t2)
 have p3:lk (aS (aS ej "due" (.val (i8 num))) "place" (.val (.int (a6 ls (aT nm salt):Int)))) ("place":Qy)=some (.val (.int (a6 ls (aT nm salt):Int))):=aR rfl
 have d3:lk (aS (aS ej "due" (.val (i8 num))) "place" (.val (.int (a6 ls (aT nm salt):Int)))) ("due":Qy)=some (.val (i8 num)):=aR (aR rfl)
 generalize uf:aS (aS ej "due" (.val (i8 num))) "place" (.val (.int (a6 ls (aT nm salt):Int)))=gr at I3 n3 m3 t3 p3 d3
 have s1:S1 X (n+2) (aw (top 60)) ((aX (bD (top 60) 2)).getD 0 (.Pass default)) ek b (.next ej b):=Kr▸cj (SE.jW (bp (L.gf 11 _ rfl) hZ (au (ai n1) (au (ai I1.s) aF)) (fh L)) (jP nm salt))
 have s2:S1 X (n+2) (aw (top 60)) ((aX (bD (top 60) 2)).getD 1 (.Pass default)) ej b (.next gr b):=uf▸S1.gP (xs:=["place","due"]) (i4.cons (SF.ip (bp (L.gf 25 _ rfl) hP (au (ai I2.l) (au (ai t2) aF)) (fH L (by have:=g5.xI;exact Qx this av) g5.dep (g5.all _ hk)))) (i4.cons (SF.ip (ai m2)) i4.nil)) rfl av (by rintro ⟨⟩ h;subst h;rfl)
 have eM:(aT nm salt:Int).fmod 4=((aT nm salt % 4:Nat):Int):=by rw [show (4:Int)=((4:Nat):Int) from rfl,oi]
 have test:ST X (n+2) (aw (top 60)) (match (aX (bD (top 60) 2)).getD 2 (.Pass default) with|.If t _ _ _=>t|_=>.Name "" default) gr b (decide (a6 ls (aT nm salt)∈bad)||(num.isNone&&decide (looped=some (a6 ls (aT nm salt),aT nm salt % 4)))) gr b :=
  ST.J4 (cg (ai p3) (ai I3.b) (ze bad _▸aQ.N6 (.int _) (bad.map fun (k:Nat)=>QG.int (k:Int)) rfl (by rw [iq (fun (k:Nat)=>QG.int (k:Int)) aI fun _=>rfl]) rfl (iQ _ _ fun _ _=>rfl))) fun _ =>
   ST.Ae (cg (ai m3) SE.none (ue num▸aQ.isNone)) fun _=>cg (ai I3.o) (SE.tup (au (ai p3) (au (SE.jW (cK (ai t3) aC av) eM) aF))) (zV looped _ _▸aQ.FH (nT looped) (gQ _ _) (vA looped) rfl (mz looped) rfl)
 have last:∀ {ρ:Rw},AB salt ls rs bad looped ρ→lk ρ ("name":Qy)=some (.val (.str (bR nm)))→lk ρ ("due":Qy)=some (.val (e7 ls salt bad looped nm num).vR)→S1 X (n+2) (aw (top 60)) ((aX (bD (top 60) 2)).getD 3 (.Pass default)) ρ b (.next ρ b):=fun I hn hd=>by
  have ee:(!QG.eqv (e7 ls salt bad looped nm num).P (e7 ls salt bad looped nm num).P)=false:=by rw [U2 _ (Q5 (jV.Ff _))];rfl
  exact S1.kI (cg (bp (L.gf 28 _ rfl) hD (au (ai I.v) (au (ai hn) aF)) hf) (ai hd) (ee▸aQ.Mu (e7 ls salt bad looped nm num).P (e7 ls salt bad looped nm num).P (jV.of _) (jV.of _) (jV.Ff _) (jV.Ff _))) bX
 refine ⟨ek,?_⟩
 by_cases c:a6 ls (aT nm salt)∈bad∨(num=none∧looped=some (a6 ls (aT nm salt),aT nm salt % 4))
 ·have ed:e7 ls salt bad looped nm num=.exc:=by unfold e7;rw [if_pos c]
  have et:(decide (a6 ls (aT nm salt)∈bad)||(num.isNone&&decide (looped=some (a6 ls (aT nm salt),aT nm salt % 4))))=true:=by
   rcases c with c|⟨rfl,c⟩
   ·simp [c]
   ·simp [c]
  rw [et] at test
  have I4:=I3.put "due" (.val (.str br)) av
  refine ⟨aS gr "due" (.val (.str br)),pe▸.tup (xs:=["name","number"]) (.cons (.cons .nil)) rfl av (by intro h;cases h),aG s1 (aG s2 (aG (S1.qK test (aG (cj SE.str) bX)) (aG (last I4 (aR n3) (by rw [ed];exact aR rfl)) bX))),I4⟩
 ·have ed:(e7 ls salt bad looped nm num).vR=i8 num:=by unfold e7;rw [if_neg c];cases num<;>rfl
  have et:(decide (a6 ls (aT nm salt)∈bad)||(num.isNone&&decide (looped=some (a6 ls (aT nm salt),aT nm salt % 4))))=false:=by
   rw [not_or,not_and] at c
   rw [decide_eq_false c.1,Bool.false_or]
   cases num with
   | none=>rw [decide_eq_false (c.2 rfl)];rfl
   | some k=>rfl
  rw [et] at test
  refine ⟨gr,pe▸.tup (xs:=["name","number"]) (.cons (.cons .nil)) rfl av (by intro h;cases h),aG s1 (aG s2 (aG (S1.kI test bX) (aG (last I3 n3 (by rw [ed];exact d3)) bX))),I3⟩
end
noncomputable def fN:List (List Nat):=[[113],[97,113,98],[],[97,97,97,97,97,97,97]]
noncomputable def ka:List (List Nat):=(range 64).map fun t=>[113,33+t]
noncomputable def dM (ls:List aU) (salt:Nat) (lp:Nat×Nat) (nm:List Nat):Bool:=decide ((a6 ls (aT nm salt),aT nm salt % 4)=lp)
noncomputable def qx (ls:List aU) (salt:Nat):Option (Nat×Nat)→List (List Nat)
 | none=>fN
 | some lp=>fN++(ka.filter (dM ls salt lp)).take 2
noncomputable def jf (nm:List Nat):D:=.str (bR nm)
theorem BF:([.str "q",.str "aqb",.str "",.str "aaaaaaa"]:List D)=fN.map jf:=by
 have h1:("q":Qy)=bR [113]:=by decide +kernel
 have h2:("aqb":Qy)=bR [97,113,98]:=by decide +kernel
 have h3:("":Qy)=bR []:=by decide +kernel
 have h4:("aaaaaaa":Qy)=bR [97,97,97,97,97,97,97]:=by decide +kernel
 rw [h1,h2,h3,h4];rfl
section
variable {X:Cx}{P:bj}{n:Nat}{sc:QM}{ρ af ay:Rw}{b ao b₂:Array UInt8}
theorem tA (L:cP X P) {salt:Nat}{ls:List aU}{rs:List Row}{bad:List Nat}{looped:Option (Nat×Nat)} (g5:LsOk ls) (g6:bad.length≤100):∀ (es:List Ent),(∀ e∈es,cb X (n+2) 471 [.ext 0,.str (bR e.1)] b (.ok (e7 ls salt bad looped e.1 e.2).vR b))→∀ ρ,AB salt ls rs bad looped ρ →
  ∃ ρ',ey X (n+2) (aw (top 60)) (dq (bD (top 60) 2)) (aX (bD (top 60) 2)) (es.map EN) ρ b (.next ρ' b)∧AB salt ls rs bad looped ρ':=fun es=>by
 induction es with
 | nil =>
  exact fun _ ρ I=>⟨ρ,.nil,I⟩
 | cons lq es bA =>
  obtain ⟨nm,num⟩:=lq
  intro h ρ I
  obtain ⟨ρ',af,h1,h2,I1⟩:=wk L g5 g6 (h _ QB) I
  obtain ⟨ay,h3,I2⟩:=bA (fun e he=>h e (QD _ he)) af I1
  exact ⟨ay,.next h1 h2 h3,I2⟩
noncomputable def ow (rs:List Row) (os:List (List Nat)):List Ent:=rs.map (fun r=>(r.1,some r.2))++os.map fun o=>(o,none)
noncomputable def ie (salt:Nat) (ls:List aU) (rs:List Row) (bad:List Nat) (looped:Option (Nat×Nat)):Rw:=(["view","salt","leaves","rows","bad","looped"]:List Qy).zip (([.ext 0,.int (salt:Int),.list (ls.map ba),.list (rs.map a8),.list (bad.map aI),kc looped]:List D).map En.val)
theorem pE (L:cP X P) {salt:Nat}{ls:List aU}{rs:List Row}{bad:List Nat}{looped:Option (Nat×Nat)} (g5:LsOk ls) (g6:bad.length≤100) (Jm:∀ r∈rs,∀ c∈r.1,c<1114112) (jb:(rs.map (·.1)).Nodup) (qQ:rs.length<64) {os:List (List Nat)} (ho:os.length≤100)
  (hf:∀ e∈ow rs os,cb X (n+2) 471 [.ext 0,.str (bR e.1)] b (.ok (e7 ls salt bad looped e.1 e.2).vR b))
  (gN:cb X (n+2) 478 [.ext 0] b (.ok (if bad=[] then .list ((fg rs).map a8) else .str br) b)) (I:AB salt ls rs bad looped ρ) (hO:lk ρ ("others":Qy)=some (.own (os.map jf))) :
  ∃ ρ',SS X (n+2) (aw (top 60)) ((bodyOf (top 60)).drop 2) ρ b (.ret (.bool true) ρ' b):=by
 obtain ⟨f3,hA⟩:=L.fn 37 _ rfl
 obtain ⟨ρ',hT,I'⟩:=tA L g5 g6 (ow rs os) hf ρ I
 have e1:rs.map a8++((os.map jf).map fun d=>D.tup [d,.none])=(ow rs os).map EN:=by
  unfold ow
  rw [Rc,Rk,Rk,Rk];rfl
 have KJ:∀ r∈fg rs,∀ c∈r.1,c<1114112:=fun r hr=>Jm r ((dX rs).mem_iff.mp hr)
 have eP:∀ rs:List Row,D.list (rs.map a8)=ofPy (.list (rs.map mJ)):=fun rs=>by rw [ofPy,iq mJ a8 fun _=>rfl]
 refine ⟨ρ',aG (S1.For (IT.wj (e1▸SE.iB (ai I.r) (i7 (own:=true) (fW:=[]) (IT.own hO) av .nil .nil (bQ.all (fun _=>True) (fun d=>.tup [d,.none]) _ (fun d hd ρ _=>⟨_,.name av av,trivial,SE.tup (au (ai (aR rfl)) (au SE.none aF))⟩) _ trivial) (by rw [Qu];exact Qx ho av)) (by rw [Qu,Qu,Qu];exact (cS (ag (aD aa (ae 64)) (ag (aq aj (ae 100)) (aq (ak aa aj) (ae 1000000))))) qQ ho)) (fun d hd=>by
   obtain ⟨e,_,rfl⟩:=dj hd
   exact ⟨_,rfl⟩)) hT) (bF (bN ?_))⟩
 have eB:QG.eqv (.list (bad.map fun (k:Nat)=>QG.int (k:Int))) (.list [])=decide (bad=[]):=by
  cases bad with
  | nil=>rfl
  | cons k r=>rw [QT];simp [QG.eqv,QG.eqvAll]
 have tB:ST X (n+2) (aw (top 60)) (match (bodyOf (top 60)).getD 3 (.Pass default) with|.Return (some (.Compare _ _ (.IfExp t _ _ _::_) _)) _=>t|_=>.Name "" default) ρ' b (decide (bad=[])) ρ' b :=
  cg (ai I'.b) (dk aF) (eB▸aQ.FH (.list (bad.map fun (k:Nat)=>QG.int (k:Int))) (.list []) (by rw [ofPy,iq (fun (k:Nat)=>QG.int (k:Int)) aI fun _=>rfl]) rfl (shaped_ints bad) rfl)
 by_cases hb:bad=[]
 ·rw [if_pos hb] at gN
  rw [decide_eq_true hb] at tB
  have ee:QG.eqv (.list ((fg rs).map mJ)) (.list ((fg rs).map mJ))=true:=U2 _ (Q5 (jo KJ))
  exact SE.cmp (bp (L.gf 29 _ rfl) hA (au (ai I'.v) aF) gN) (SE.qK tB (SE.qt (ai I'.r) jb qQ)) (ee▸aQ.FH (.list ((fg rs).map mJ)) (.list ((fg rs).map mJ)) (eP _) (eP _) (jo KJ) (jo KJ))
 ·rw [if_neg hb] at gN
  rw [decide_eq_false hb] at tB
  have ee:QG.eqv (.str br) (.str br)=true:=U2 _ (Q5 (gx fv))
  exact SE.cmp (bp (L.gf 29 _ rfl) hA (au (ai I'.v) aF) gN) (SE.kI tB SE.str) (ee▸aQ.FH (.str br) (.str br) rfl rfl (gx fv) (gx fv))
end
section
variable {X:Cx}{P:bj}{n:Nat}{sc:QM}{ρ af ay:Rw}{b ao b₂:Array UInt8}
theorem SE.toS {e:QR}{i j:Qy}(h:SE X n sc e ρ b (.str i) af ao) (q:i=j):SE X n sc e ρ b (.str j) af ao:=q▸h
theorem SE.toD {e:QR}{i j:D}(h:SE X n sc e ρ b i af ao) (q:i=j):SE X n sc e ρ b j af ao:=q▸h
noncomputable def IH (salt:Nat):D→D
 | .str x=>aI (aT x.cps.toList salt)
 | _=>.none
theorem vX (salt:Nat) (nm:List Nat):IH salt (jf nm)=aI (aT nm salt):=rfl
theorem zY (salt:Nat) (sm:List (List Nat)):(sm.map fun nm=>aI (aT nm salt))=(sm.map jf).map (IH salt):=by
 rw [Rk]
 exact SD fun nm _=>(vX salt nm).symm
theorem oH:fN.length=4:=rfl
theorem yi:ka.length=64:=by unfold ka;rw [Qu,Q6]
theorem wq (L:cP X P) {salt:Nat}{sm:List (List Nat)} (Ei:sm.length≤1000) (vO:lk ρ ("some":Qy)=some (.val (.list (sm.map jf)))) (hs:lk ρ ("salt":Qy)=some (.val (.int (salt:Int)))) :
  S1 X (n+2) (aw (top 60)) ((match (bodyOf (top 60)).getD 1 (.Pass default) with|.If _ b _ _=>b|_=>[]).getD 1 (.Pass default)) ρ b (.next (aS ρ "hashes" (.val (.list (sm.map fun nm=>aI (aT nm salt))))) b):=by
 obtain ⟨f1,hZ⟩:=L.fn 15 _ rfl
 rw [zY]
 exact S1.nj (own:=false) (fW:=["salt"]) (IT.list (ai vO)) av (.cons hs .nil) (.cons hs .nil) (bQ.all (fun ρ=>lk ρ ("salt":Qy)=some (.val (.int (salt:Int)))) _ _ (fun d hd ρ hI=>by
  obtain ⟨nm,_,rfl⟩:=dj hd
  exact ⟨_,.name av av,aR hI,SE.toD (SE.jW (bp (L.gf 11 _ rfl) hZ (au (ai (aR rfl)) (au (ai (aR hI)) aF)) (fh (name:=bR nm) L)) (jP nm salt)) (vX salt nm).symm⟩) _ rfl) (by rw [Qu];exact Qx Ei av) av (by rintro ⟨⟩ h;subst h;rfl)
theorem wo (L:cP X P) {salt:Nat}{ls:List aU}{lp:Nat×Nat}(g5:LsOk ls) {sm:List (List Nat)} (Ei:sm.length≤1000) {os:List D}(ja:os.length≤1000) (Ij:lk ρ ("others":Qy)=some (.own os)) (JA:lk ρ ("some":Qy)=some (.val (.list (sm.map jf)))) (JB:lk ρ ("hashes":Qy)=some (.val (.list (sm.map fun nm=>aI (aT nm salt)))))
  (hl:lk ρ ("leaves":Qy)=some (.val (.list (ls.map ba)))) (hp:lk ρ ("looped":Qy)=some (.val (kc (some lp)))) :
  S1 X (n+2) (aw (top 60)) ((match (bodyOf (top 60)).getD 1 (.Pass default) with|.If _ b _ _=>b|_=>[]).getD 2 (.Pass default)) ρ b (.next (aS ρ "others" (.own (os++((sm.filter (dM ls salt lp)).take 2).map jf))) b):=by
 obtain ⟨f2,hP⟩:=L.fn 33 _ rfl
 have eZ:(zipWith (fun x y=>[x,y]) (sm.map jf) (sm.map fun nm=>aI (aT nm salt))).map D.tup=sm.map fun nm=>D.tup [jf nm,aI (aT nm salt)]:=by
  rw [List.zipWith_map,List.zipWith_self,Rk];rfl
 have eO:lN (((sm.map fun nm=>D.tup [jf nm,aI (aT nm salt)]).filter fun d=>match d with|.tup [.str x,_]=>dM ls salt lp x.cps.toList|_=>false).map fun d=>match d with|.tup [x,_]=>x|_=>.none) none (some 2)=((sm.filter (dM ls salt lp)).take 2).map jf:=by
  rw [List.filter_map,Rk]
  have e5:((fun d=>match d with|D.tup [.str x,_]=>dM ls salt lp x.cps.toList|_=>false) ∘ fun nm=>D.tup [jf nm,aI (aT nm salt)])=dM ls salt lp:=by funext nm;rfl
  have e6:((fun d=>match d with|D.tup [x,_]=>x|_=>D.none) ∘ fun nm=>D.tup [jf nm,aI (aT nm salt)])=jf:=by funext nm;rfl
  rw [e5,e6]
  unfold lN
  show (drop 0 _).take (clipAt _ (2:Int)-0)=_
  rw [show (2:Int)=((2:Nat):Int) from rfl,SQ,U9,Nat.sub_zero,List.map_take,← List.take_take,List.take_length]
 have eM:∀ nm,(aT nm salt:Int).fmod 4=((aT nm salt % 4:Nat):Int):=fun nm=>by rw [show (4:Int)=((4:Nat):Int) from rfl,oi]
 have eV:∀ nm,QG.eqv (gQ (a6 ls (aT nm salt)) (aT nm salt % 4)) (nT (some lp))=dM ls salt lp nm:=fun nm=>by
  show QG.eqv (gQ _ _) (gQ lp.1 lp.2)=_
  rw [sH]
  unfold dM
  obtain ⟨a,c⟩:=lp
  simp
 have Di:eA ρ ["leaves","looped"] [("leaves",.val (.list (ls.map ba))),("looped",.val (kc (some lp)))]:=.cons hl (.cons hp .nil)
 have hlen:((sm.filter (dM ls salt lp)).map jf).length≤1000:=by
  rw [Qu]
  have:=List.length_filter_le (dM ls salt lp) sm
  exact (cS (ag (aq aj (ae 1000)) (ag (aq aa aj) (aq aa (ae 1000))))) Ei this
 have HO:(((sm.map fun nm=>D.tup [jf nm,aI (aT nm salt)]).filter fun d=>match d with|.tup [.str x,_]=>dM ls salt lp x.cps.toList|_=>false).map fun d=>match d with|.tup [x,_]=>x|_=>D.none).length≤1000000:=by
  rw [Qu]
  refine Qx (List.length_filter_le _ _) ?_
  rw [Qu];exact Qx Ei av
 refine dI (SE.extend Ij (SE.wu (SE.DH (i7 (own:=false) (fW:=["leaves","looped"]) (eZ▸IT.zip (au (ai JA) (au (ai JB) aF))) av Di Di (bQ.some (fun ρ=>lk ρ ("leaves":Qy)=some (.val (.list (ls.map ba)))∧lk ρ ("looped":Qy)=some (.val (kc (some lp)))) _ _ _ (fun d hd ρ hI=>?_) _ ⟨rfl,rfl⟩) (by rw [Qu];exact Qx Ei av)) .none (.some aC) HO) eO) Ij (by rw [Qu];have:=SG 2 (sm.filter (dM ls salt lp));exact (cS (ag (aq aa (ae 1000)) (ag (aq aj (ae 2)) (aq (ak aa aj) (ae 1000000))))) ja this))
 obtain ⟨nm,_,rfl⟩:=dj hd
 have hk:=eH nm salt
 have i1:lk (stores ρ ((["name","told"]:List Qy).zip (([jf nm,aI (aT nm salt)]:List D).map En.val))) ("leaves":Qy)=some (.val (.list (ls.map ba))):=aR (aR hI.1)
 have i2:lk (stores ρ ((["name","told"]:List Qy).zip (([jf nm,aI (aT nm salt)]:List D).map En.val))) ("looped":Qy)=some (.val (kc (some lp))):=aR (aR hI.2)
 exact ⟨_,.tup (xs:=["name","told"]) (.cons (.cons .nil)) rfl av av,⟨i1,i2⟩,ST.bY (cg (SE.tup (au (bp (L.gf 25 _ rfl) hP (au (ai i1) (au (ai (aR rfl)) aF)) (fH L (by have:=g5.xI;exact Qx this av) g5.dep (g5.all _ hk))) (au (SE.jW (cK (ai (aR rfl)) aC av) (eM nm)) aF))) (ai i2) (aQ.FH (gQ _ _) (nT (some lp)) rfl (vA (some lp)) rfl (mz _))) (eV nm),fun _=>ai (aR (aR rfl))⟩
theorem wm (L:cP X P) {sm:List (List Nat)} (Ei:sm=ka) :
  S1 X (n+2) (aw (top 60)) ((match (bodyOf (top 60)).getD 1 (.Pass default) with|.If _ b _ _=>b|_=>[]).getD 0 (.Pass default)) ρ b (.next (aS ρ "some" (.val (.list (sm.map jf)))) b):=by
 have e1:sm.map jf=((range ((64:Int)).toNat).map fun (i:Nat)=>D.int (i:Int)).map fun d=>.str (bR [113,33+(jX d).toNat]):=by
  rw [Ei]
  unfold ka;rw [Rk,Rk];rfl
 have hq:("q":Qy)=bR [113]:=by decide +kernel
 rw [e1]
 exact S1.nj (own:=false) (fW:=[]) (mH aC av av) av .nil .nil (bQ.all (fun _=>True) _ _ (fun d hd ρ _=>by
  obtain ⟨i,hi,rfl⟩:=dj hd
  have pf:=R8.mp hi
  have ec:(⟨#[((33:Int)+(i:Int)).toNat]⟩:Qy)=bR [33+i]:=by
   rw [show ((33:Int)+(i:Int)).toNat=33+i by exact @Gs _];rfl
  have ea:("q":Qy)++bR [33+i]=bR [113,33+i]:=by rw [hq];rfl
  exact ⟨_,.name av av,trivial,SE.toS (SE.L2 SE.str (SE.toS (SE.chr (cZ aC (ai (aR rfl))) (@Gr _) ((Lq 1 0 [gk (aJ 64)] (ag (aD aa aj) (bM (cn (aJ 33) (aL aa)) (aJ 1114111)))) pf)) ec) rfl rfl (by rw [ea];show 2≤1000000;decide)) ea⟩) _ trivial) (by rw [Qu,Q6];decide) av (by rintro ⟨⟩ h;subst h;rfl)
theorem kh (L:cP X P) {salt:Nat}{ls:List aU}{rs:List Row}{bad:List Nat}{looped:Option (Nat×Nat)} (g5:LsOk ls) (g6:bad.length≤100) (Jm:∀ r∈rs,∀ c∈r.1,c<1114112) (jb:(rs.map (·.1)).Nodup) (qQ:rs.length<64)
  (hf:∀ e∈ow rs (qx ls salt looped),cb X (n+2) 471 [.ext 0,.str (bR e.1)] b (.ok (e7 ls salt bad looped e.1 e.2).vR b))
  (gN:cb X (n+2) 478 [.ext 0] b (.ok (if bad=[] then .list ((fg rs).map a8) else .str br) b)) :
  cb X (n+3) 483 [.ext 0,.int (salt:Int),.list (ls.map ba),.list (rs.map a8),.list (bad.map aI),kc looped] b (.ok (.bool true) b):=by
 obtain ⟨fd,hF⟩:=L.fn 38 _ rfl
 have I0:AB salt ls rs bad looped (ie salt ls rs bad looped):=⟨rfl,rfl,rfl,rfl,rfl,rfl⟩
 have I1:=I0.put "others" (.own (fN.map jf)) av
 have LC:lk (aS (ie salt ls rs bad looped) "others" (.own (fN.map jf))) ("others":Qy)=some (.own (fN.map jf)):=aR rfl
 have AN:S1 X (n+2) (aw (top 60)) ((bodyOf (top 60)).getD 0 (.Pass default)) (ie salt ls rs bad looped) b (.next (aS (ie salt ls rs bad looped) "others" (.own (fN.map jf))) b) :=
  BF▸S1.lj (SF.lst (au SE.str (au SE.str (au SE.str (au SE.str aF)))))
 generalize pe:aS (ie salt ls rs bad looped) "others" (.own (fN.map jf))=ek at I1 LC AN
 cases looped with
 | none =>
  obtain ⟨ρ',hR⟩:=pE L g5 g6 Jm jb qQ (os:=fN) (by rw [oH];decide) hf gN I1 LC
  exact bV hF rfl av (aG AN (aG (S1.kI (cg (ai I1.o) SE.none aQ.isNotNone) bX) hR))
 | some lp =>
  have eo:qx ls salt (some lp)=fN++(ka.filter (dM ls salt lp)).take 2:=rfl
  rw [eo] at hf
  have hz:=yi
  have BX:=wm (n:=n) (ρ:=ek) (b:=b) L (sm:=ka) rfl
  generalize ka=sm at *
  have I2:=I1.put "some" (.val (.list (sm.map jf))) av
  have Nl:lk (aS ek "some" (.val (.list (sm.map jf)))) ("others":Qy)=some (.own (fN.map jf)):=aR LC
  have vO:lk (aS ek "some" (.val (.list (sm.map jf)))) ("some":Qy)=some (.val (.list (sm.map jf))):=aR rfl
  generalize aS ek "some" (.val (.list (sm.map jf)))=ej at I2 Nl vO BX
  have FZ:=wq (n:=n) (b:=b) L (Qx (RP hz) av) vO I2.s
  have I3:=I2.put "hashes" (.val (.list (sm.map fun nm=>aI (aT nm salt)))) av
  have Ij:lk (aS ej "hashes" (.val (.list (sm.map fun nm=>aI (aT nm salt))))) ("others":Qy)=some (.own (fN.map jf)):=aR Nl
  have JA:lk (aS ej "hashes" (.val (.list (sm.map fun nm=>aI (aT nm salt))))) ("some":Qy)=some (.val (.list (sm.map jf))):=aR vO
  have JB:lk (aS ej "hashes" (.val (.list (sm.map fun nm=>aI (aT nm salt))))) ("hashes":Qy)=some (.val (.list (sm.map fun nm=>aI (aT nm salt)))):=aR rfl
  generalize aS ej "hashes" (.val (.list (sm.map fun nm=>aI (aT nm salt))))=gr at I3 Ij JA JB FZ
  have NP:=wo (n:=n) (b:=b) (salt:=salt) (ls:=ls) (lp:=lp) L g5 (Qx (RP hz) av) (by rw [Qu,oH];decide) Ij JA JB I3.l I3.o
  obtain ⟨ρ',hR⟩:=pE (ρ:=aS gr "others" (.own (fN.map jf++((sm.filter (dM ls salt lp)).take 2).map jf))) L g5 g6 Jm jb qQ (os:=fN++(sm.filter (dM ls salt lp)).take 2) (by rw [QA,oH];have:=SG 2 (sm.filter (dM ls salt lp));exact (dW (ag (aq aa (ae 2)) (aq (ak (ae 4) aa) (ae 100)))) this) hf gN (I3.put _ _ av) (by rw [Rc];exact aR rfl)
  exact bV hF rfl av (aG AN (aG (S1.qK (cg (ai I1.o) SE.none aQ.isNotNone) (aG BX (aG FZ (aG NP bX)))) hR))
end
noncomputable def dJ (r:Row):List Nat:=encM r.1 r.2
noncomputable def jY (salt:Nat) (rs:List Row):List Nat:=[1]++aZ salt 4++aZ rs.length 2++(rs.map dJ).flatten
theorem yn (nm:List Nat):(bR nm).cps.toList=nm:=rfl
section
variable {X:Cx}{P:bj}{n:Nat}{sc:QM}{ρ af ay:Rw}{b ao b₂:Array UInt8}
theorem nN {nm:List Nat}{t:QR}{np cp:Rd}{sp:Rd}(ht:t=.Name "sign" sp) (cv:stN sc "sign"=true) (sj:sc.names.lookup ("sign":Qy)=some .local) (hk:sc.names.lookup ("ord":Qy)=some .globalImplicit) {ap:Rd} :
  bQ X n sc t [] (.Call (.Name "ord" np) [.Name "sign" ap] [] cp) b ((bR nm).cps.toList.map fun (c:Nat)=>D.str ⟨#[c]⟩) ρ (nm.map aI):=by
 subst ht
 have e:nm.map aI=((bR nm).cps.toList.map fun (c:Nat)=>D.str ⟨#[c]⟩).map fun d=>.int ((DI d:Nat):Int):=by rw [Rk];rfl
 rw [e]
 exact bQ.all (fun _=>True) _ _ (fun d hd ρ _=>by
  obtain ⟨c,_,rfl⟩:=dj hd
  exact ⟨_,.name cv fun _=>sj,trivial,SE.ord (ai (bx ..)) hk⟩) _ trivial
theorem sD (rs:List Row) (k:Nat) (h:∀ r∈rs,r.1.length≤k):((rs.map dJ).flatten).length≤rs.length*(9+k):=by
 induction rs with
 | nil=>simp
 | cons r rs ih =>
  rw [QT,RJ,QA,QC,Nat.succ_mul]
  have h1:=ih fun q hq=>h q (QD _ hq)
  have h2:(dJ r).length=9+r.1.length:=by
   unfold dJ encM
   simp only [QA,ax,QC,QP];exact @vq _
  have:=h r QB
  exact (xD (ag (aq aj az) (ag (aH aa (ak (ae 9) cM)) (ag (aq cM a7) (aq (ak aa aj) (ak az (ak (ae 9) a7))))))) h1 h2 this
theorem w3 (L:cP X P):∀ (rs:List Row) (acc:List Nat) (ρ:Rw),acc.length+rs.length*109≤100000→(∀ r∈rs,r.1.length≤100)→lk ρ ("found":Qy)=some (.val (.list (acc.map aI))) →
  ∃ ρ',ey X (n+1) (aw (top 53)) (dq (bD (top 53) 1)) (aX (bD (top 53) 1)) (rs.map a8) ρ b (.next ρ' b)∧lk ρ' ("found":Qy)=some (.val (.list ((acc++(rs.map dJ).flatten).map aI))):=fun rs=>by
 induction rs with
 | nil =>
  exact fun acc ρ _ _ I=>⟨ρ,.nil,by simpa using I⟩
 | cons lq rs bA =>
  obtain ⟨nm,num⟩:=lq
  intro acc ρ hc hl I
  obtain ⟨f2,hG⟩:=L.fn 29 _ rfl
  have uh:nm.length≤100:=hl _ QB
  rw [QC,Nat.succ_mul] at hc
  have e1:dJ (nm,num)=[nm.length]++nm++aZ num 8:=rfl
  have vG:(dJ (nm,num)).length=9+nm.length:=by
   rw [e1];simp only [QA,ax,QC,QP];exact @vq _
  have I0:lk (stores ρ ((["name","number"]:List Qy).zip (([.str (bR nm),.int (num:Int)]:List D).map En.val))) ("found":Qy)=some (.val (.list (acc.map aI))):=aR (aR I)
  have n0:lk (stores ρ ((["name","number"]:List Qy).zip (([.str (bR nm),.int (num:Int)]:List D).map En.val))) ("name":Qy)=some (.val (.str (bR nm))):=(aR (aR rfl))
  have m0:lk (stores ρ ((["name","number"]:List Qy).zip (([.str (bR nm),.int (num:Int)]:List D).map En.val))) ("number":Qy)=some (.val (.int (num:Int))):=(aR rfl)
  have I1:lk (aS (stores ρ ((["name","number"]:List Qy).zip (([.str (bR nm),.int (num:Int)]:List D).map En.val))) "found" (.val (.list ((acc++dJ (nm,num)).map aI)))) ("found":Qy)=some (.val (.list ((acc++dJ (nm,num)).map aI))):=aR rfl
  obtain ⟨ρ',hT,I'⟩:=bA _ _ (by rw [QA,vG];exact (ji (ag (aq (ak aa (ak (cD az 109) (ae 109))) (ae 100000)) (ag (aq aj (ae 100)) (ag (aH a7 (ak (ae 9) aj)) (aq (ak (ak aa (ak (ae 9) aj)) (cD az 109)) (ae 100000)))))) hc uh vG) (fun r hr=>hl r (QD _ hr)) I1
  refine ⟨ρ',.next (.tup (xs:=["name","number"]) (.cons (.cons .nil)) rfl av (by intro h;cases h)) (aG (cj (SE.wu (SE.iB (SE.iB (SE.iB (ai I0) (dk (au (SE.A8 (ai n0) ((cS (ag (aq aa (ae 100)) (ag (aH aj (ak (ae 9) aa)) (aq aa (ae 1000000))))) uh vG)) aF)) ?_) (i7 (own:=false) (fW:=[]) (IT.str (ai n0)) av .nil .nil (nN rfl av av av) ?_) ?_) (bp (L.gf 21 _ rfl) hG (au (ai m0) (au aC aF)) (bE (m:=8) L av)) ?_) ?_)) bX) hT,?_⟩
  ·simp only [Qu,QC,QP];exact (cS (ag (aq (ak aa (ak (cD aj 109) (ae 109))) (ae 100000)) (aq (ak aa (ak (ae 0) (ae 1))) (ae 1000000)))) hc
  ·rw [Qu,yn];exact (cS (ag (aq aa (ae 100)) (ag (aH aj (ak (ae 9) aa)) (aq aa (ae 100000))))) uh vG
  ·simp only [QA,Qu,QC,QP];exact (ji (ag (aq (ak aa (ak (cD az 109) (ae 109))) (ae 100000)) (ag (aq aj (ae 100)) (ag (aH a7 (ak (ae 9) aj)) (aq (ak (ak aa (ak (ae 0) (ae 1))) aj) (ae 1000000)))))) hc uh vG
  ·simp only [QA,Qu,QC,QP,ax];exact (ji (ag (aq (ak aa (ak (cD az 109) (ae 109))) (ae 100000)) (ag (aq aj (ae 100)) (ag (aH a7 (ak (ae 9) aj)) (aq (ak (ak (ak aa (ak (ae 0) (ae 1))) aj) (ae 8)) (ae 1000000)))))) hc uh vG
  ·rw [e1];simp [aI]
  ·rw [QT,RJ,← Q9];exact I'
theorem r4 (L:cP X P) {salt:Nat}{rs:List Row}(hl:rs.length≤100) (hr:∀ r∈rs,r.1.length≤100):cb X (n+2) 442 [.int (salt:Int),.list (rs.map a8)] b (.ok (.list ((jY salt rs).map aI)) b):=by
 obtain ⟨fd,hF⟩:=L.fn 31 _ rfl
 obtain ⟨f2,hG⟩:=L.fn 29 _ rfl
 have el:(((rs.map a8).length:Nat):Int)=(rs.length:Int):=by rw [Qu]
 obtain ⟨ρ',hT,I'⟩:=w3 (n:=n) (b:=b) L rs ([1]++aZ salt 4++aZ rs.length 2) (aS ((["salt","rows"]:List Qy).zip (([.int (salt:Int),.list (rs.map a8)]:List D).map En.val)) "found" (.val (.list (([1]++aZ salt 4++aZ rs.length 2).map aI))))
  (by simp only [QA,ax,QC,QP];exact (cS (ag (aq aa (ae 100)) (ag (cu (aL aj) (aL aa)) (aq (ak (ak (ak (ak (ae 0) (ae 1)) (ae 4)) (ae 2)) (cD aa 109)) (ae 100000))))) hl el) hr (aR rfl)
 refine bV hF rfl av (aG (cj (SE.wu (SE.iB (SE.iB (dk (au aC aF)) (bp (L.gf 21 _ rfl) hG (au (ai rfl) (au aC aF)) (bE (m:=4) L av)) ?_) (bp (L.gf 21 _ rfl) hG (au (el▸SE.nY (ai rfl) (by rw [Qu];exact (cS (ag (aq aa (ae 100)) (ag (cu (aL aj) (aL aa)) (aq aa (ae 1000000))))) hl el)) (au aC aF)) (bE (m:=2) L av)) ?_) ?_))
  (aG (S1.For (IT.wj (ai rfl) (fun d hd=>by
   obtain ⟨e,_,rfl⟩:=dj hd
   exact ⟨_,rfl⟩)) hT) (bF (bN (ai I')))))
 ·simp only [Qu,QC,QP,ax];decide
 ·simp only [QA,Qu,QC,QP,ax];decide
 ·simp [aI]
end
noncomputable def dA:List Nat:=[97,98,45,126,32,90]
noncomputable def fG (y:Int):Nat:=dA.getD (y.fmod 6).toNat 0
noncomputable def cT:Nat→Int→List Nat×Int
 | 0,y=>([],y)
 | k+1,y=>let r:=cT k (y.fdiv 6);(fG y::r.1,r.2)
noncomputable def numAt (x y:Int):Nat:=([x.fmod 100,(x.fdiv 7).fmod (2 ^ 64),2 ^ 64-1].getD (y.fmod 3).toNat 0).toNat
noncomputable def rowOf (x:Int):Row:=let r:=cT (1+x.fmod 6).toNat (x.fdiv 6);(r.1,numAt x r.2)
noncomputable def dN (rs:List Row) (x:Int):List Row:=if (rs.map (·.1)).contains (rowOf x).1 then rs else rs++[rowOf x]
noncomputable def rowsOf (xs:List Int):List Row:=xs.foldl dN []
theorem de (y:Int) {k:Int}(h:0<k):0≤y.fmod k∧y.fmod k<k:=by
 rw [Int.fmod_eq_emod_of_nonneg _ (by exact C0 h)]
 exact ⟨Int.emod_nonneg _ (CZ h),Int.emod_lt_of_pos _ h⟩
theorem t6 (y:Int):fG y∈dA:=by
 have h:=de y (k:=6) av
 unfold fG
 have hi:(y.fmod 6).toNat<dA.length:=by
  have:dA.length=6:=rfl
  exact CY h this
 rw [Qw,QI hi]
 exact SV hi
theorem lY:∀ (k:Nat) (y:Int),(cT k y).1.length=k:=fun k=>by
 induction k with
 | zero =>
  exact fun _=>rfl
 | succ k bA =>
  exact fun y=>congrArg (·+1) (bA _)
theorem qb:∀ (k:Nat) (y:Int),∀ c∈(cT k y).1,c∈dA:=fun k=>by
 induction k with
 | zero =>
  exact fun _ c h=>by cases h
 | succ k bA =>
  intro y c h
  rcases bS h with rfl|h
  ·exact t6 y
  ·exact bA _ c h
theorem uF:∀ (k:Nat) (y:Int),cT (k+1) y=((cT k y).1++[fG (cT k y).2],(cT k y).2.fdiv 6):=fun k=>by
 induction k with
 | zero =>
  exact fun y=>rfl
 | succ k bA =>
  intro y
  have ih:=bA (y.fdiv 6)
  show (fG y::(cT (k+1) (y.fdiv 6)).1,(cT (k+1) (y.fdiv 6)).2)=_
  rw [ih];rfl
theorem numAt_eq (x y:Int):([x.fmod 100,(x.fdiv 7).fmod (2 ^ 64),2 ^ 64-1]:List Int)[(y.fmod 3).toNat]?=some (numAt x y:Int)∧numAt x y<18446744073709551616:=by
 have h:=de y (k:=3) av
 have h1:=de x (k:=100) av
 have h2:=de (x.fdiv 7) (k:=2 ^ 64) av
 unfold numAt
 have h3:(y.fmod 3).toNat<3:=by exact (Lq 0 1 [gk bc] (ag (dB (bM (aJ 0) bc) (cU bc (aJ 3))) (aD aa (ae 3)))) h
 generalize (y.fmod 3).toNat=i at h3
 rcases i with _|_|_|i
 ·simp only [List.getD_cons_zero,Ry]
  constructor
  ·congr 1;exact (Lq 0 1 [gk bc] (ag (dB (bM (aJ 0) bc) (cU bc (aJ 100))) (cu bc (aL aa)))) h1
  ·exact (Lq 0 1 [gk bc] (ag (dB (bM (aJ 0) bc) (cU bc (aJ 100))) (aD aa (ae 18446744073709551616)))) h1
 ·simp only [List.getD_cons_succ,List.getD_cons_zero,Sa,Ry]
  constructor
  ·congr 1;exact (Lq 0 1 [gk bc] (ag (dB (bM (aJ 0) bc) (cU bc (aJ (2 ^ 64)))) (cu bc (aL aa)))) h2
  ·exact (Lq 0 1 [gk bc] (ag (dB (bM (aJ 0) bc) (cU bc (aJ (2 ^ 64)))) (aD aa (ae 18446744073709551616)))) h2
 ·simp only [List.getD_cons_succ,List.getD_cons_zero,Sa,Ry]
  decide
 ·exact absurd h3 (US.mpr (Nat.le_add_left 3 i))
theorem xb:∀ (l:List Nat),l.length≤10000→JoinOk "" (l.map fun c=>(⟨#[c]⟩:Qy))=true:=fun l h=>by
 have key:∀ (l:List Nat) (acc:Nat),(l.map fun c=>(⟨#[c]⟩:Qy)).foldl (fun a (x:Qy)=>a+x.length+("":Qy).length) acc=acc+l.length:=by
  intro l
  induction l with
  | nil=>intro acc;rfl
  | cons c r ih =>
   intro acc
   rw [QT,RY,ih,QC]
   have:(⟨#[c]⟩:Qy).length=1:=rfl
   have h0:("":Qy).length=0:=rfl
   exact CX this h0
 unfold JoinOk
 rw [List.foldl_toArray,key]
 rw [S0]
 show decide (_ > sizeLine)=false
 rw [Rq]
 exact decide_eq_false (CW h)
theorem A9 (l:List Nat):Txt.join "" (l.map fun c=>(⟨#[c]⟩:Qy))=bR l:=by
 have fold:∀ (l:List Nat) (acc:Array Nat),((l.map fun c=>(⟨#[c]⟩:Qy)).foldl (fun acc (p:Qy)=>acc++("":Qy).cps++p.cps) acc).toList=acc.toList++l:=by
  intro l
  induction l with
  | nil=>intro acc;simp
  | cons c r ih =>
   intro acc
   rw [QT,RY,ih]
   have h0:("":Qy).cps=#[]:=rfl
   rw [h0]
   simp
 cases l with
 | nil=>rfl
 | cons c r =>
  show (⟨(r.map fun c=>(⟨#[c]⟩:Qy)).foldl (fun acc (p:Qy)=>acc++("":Qy).cps++p.cps) (⟨#[c]⟩:Qy).cps⟩:Qy)=_
  unfold bR
  congr 1
  apply Uk.mp
  rw [fold]
  simp
theorem tZ:([.str "a",.str "b",.str "-",.str "~",.str " ",.str "Z"]:List D)=dA.map sgn:=by
 have h1:("a":Qy)=⟨#[97]⟩:=by decide +kernel
 have h2:("b":Qy)=⟨#[98]⟩:=by decide +kernel
 have h3:("-":Qy)=⟨#[45]⟩:=by decide +kernel
 have h4:("~":Qy)=⟨#[126]⟩:=by decide +kernel
 have h5:(" ":Qy)=⟨#[32]⟩:=by decide +kernel
 have h6:("Z":Qy)=⟨#[90]⟩:=by decide +kernel
 rw [h1,h2,h3,h4,h5,h6];rfl
theorem t7 (y:Int):(dA.map sgn)[(y.fmod 6).toNat]?=some (sgn (fG y)):=by
 have h:=de y (k:=6) av
 have hi:(y.fmod 6).toNat<dA.length:=by
  have:dA.length=6:=rfl
  exact CY h this
 rw [QU,QI hi]
 unfold fG
 rw [Qw,QI hi];rfl
section
variable {X:Cx}{P:bj}{n:Nat}{sc:QM}{ρ af ay:Rw}{b ao b₂:Array UInt8}
structure JM (x:Int) (rs:List D) (ls:List Nat) (y:Int) (ρ:Rw):Prop where
 l:lk ρ ("letters":Qy)=some (.own (ls.map sgn))
 y:lk ρ ("y":Qy)=some (.val (.int y))
 x:lk ρ ("x":Qy)=some (.val (.int x))
 r:lk ρ ("rows":Qy)=some (.own rs)
theorem qF (L:Lib0 X) {x:Int}{rs:List D}(y0:Int):∀ (ds:List D) (k:Nat) (ρ:Rw),k+ds.length≤1000→JM x rs (cT k y0).1 (cT k y0).2 ρ →
  ∃ ρ',ey X (n+1) (aw (top 52)) (dq ((aX (bD (top 52) 1)).getD 1 (.Pass default))) (aX ((aX (bD (top 52) 1)).getD 1 (.Pass default))) ds ρ b (.next ρ' b)∧JM x rs (cT (k+ds.length) y0).1 (cT (k+ds.length) y0).2 ρ':=fun ds=>by
 induction ds with
 | nil =>
  exact fun k ρ _ I=>⟨ρ,.nil,I⟩
 | cons d ds bA =>
  intro k ρ hk I
  rw [QC] at hk
  have hl:=lY k y0
  have e1:=uF k y0
  have hr:=de (cT k y0).2 (k:=6) av
  have l1:lk (aS ρ "turn" (.val d)) ("letters":Qy)=some (.own ((cT k y0).1.map sgn)):=aR I.l
  have y1:lk (aS ρ "turn" (.val d)) ("y":Qy)=some (.val (.int (cT k y0).2)):=aR I.y
  have I1:JM x rs (cT (k+1) y0).1 (cT (k+1) y0).2 (aS (aS (aS ρ "turn" (.val d)) "letters" (.own ((cT k y0).1.map sgn++[sgn (fG (cT k y0).2)]))) "y" (.val (.int ((cT k y0).2.fdiv 6)))):=by
   rw [e1]
   refine ⟨?_,aR rfl,aR (aR (aR I.x)),aR (aR (aR I.r))⟩
   rw [Rc]
   exact aR (aR rfl)
  obtain ⟨ρ',hT,I'⟩:=bA (k+1) _ ((dC (ag (aq (ak aa (ak aj (ae 1))) (ae 1000)) (ag (aH az aa) (aq (ak (ak aa (ae 1)) aj) (ae 1000))))) hk hl) I1
  refine ⟨ρ',.next (.name av (by intro h;cases h)) (aG (dI (SE.append l1 (SE.gA (tZ▸dk (au SE.str (au SE.str (au SE.str (au SE.str (au SE.str (au SE.str aF))))))) (cK (ai y1) aC av) hr.1 ((wb (ag (dB (bM (aJ 0) bc) (cU bc (aJ 6))) (cU bc (aJ (2 ^ 63))))) hr) (t7 _)) l1 (by rw [Qu,hl];exact (dC (ag (aq (ak aa (ak aj (ae 1))) (ae 1000)) (ag (aH az aa) (aq aa (ae 1000000))))) hk hl)))
   (aG (cj (gK (ai (aR y1)) aC av av)) bX)) hT,?_⟩
  rw [QC,show k+(ds.length+1)=k+1+ds.length by exact @DT _ _]
  exact I'
theorem xy (rs:List Row) (nm:List Nat):((rs.map fun r=>QG.str (bR r.1)).any fun y=>QG.eqv y (.str (bR nm)))=(rs.map (·.1)).contains nm:=by
 rw [Bool.eq_iff_iff,Sg,List.contains_iff_mem,Tg]
 constructor
 ·rintro ⟨y,hy,h⟩
  obtain ⟨r,hr,rfl⟩:=dj hy
  simp only [QG.eqv,beq_iff_eq] at h
  exact ⟨r,hr,kR.mp h⟩
 ·rintro ⟨r,hr,rfl⟩
  exact ⟨_,fV ⟨r,hr,rfl⟩,by simp [QG.eqv]⟩
theorem wH (L:Lib0 X) {rs:List Row}{x:Int}(hz:rs.length≤1000) (hr:∀ r∈rs,∀ c∈r.1,c<1114112) (hI:lk ρ ("rows":Qy)=some (.own (rs.map a8))) :
  ∃ af,SS X (n+1) (aw (top 52)) (aX (bD (top 52) 1)) (aS ρ "x" (.val (.int x))) b (.next af b)∧lk af ("rows":Qy)=some (.own ((dN rs x).map a8)):=by
 have hx:=de x (k:=6) av
 generalize pe:stores (aS ρ "x" (.val (.int x))) ((["y","letters"]:List Qy).reverse.zip ([.val (.int (x.fdiv 6)),.own []]:List En).reverse)=ek
 have I1:JM x (rs.map a8) (cT 0 (x.fdiv 6)).1 (cT 0 (x.fdiv 6)).2 ek:=by
  subst pe
  exact ⟨aR (aR rfl),aR rfl,aR (aR (aR rfl)),aR (aR (aR hI))⟩
 obtain ⟨ej,hT,I2⟩:=qF (n:=n) (b:=b) L (x.fdiv 6) ((range ((1:Int)+x.fmod 6).toNat).map fun (i:Nat)=>D.int (i:Int)) 0 ek (by rw [Qu,Q6];exact (Lq 0 1 [gk (cn (aJ 1) bc)] (ag (dB (bM (aJ 0) bc) (cU bc (aJ 6))) (aq (ak (ae 0) aa) (ae 1000)))) hx) I1
 rw [Qu,Q6,Sk] at I2
 have hlen:=lY ((1:Int)+x.fmod 6).toNat (x.fdiv 6)
 have e1:rowOf x=((cT ((1:Int)+x.fmod 6).toNat (x.fdiv 6)).1,numAt x (cT ((1:Int)+x.fmod 6).toNat (x.fdiv 6)).2):=rfl
 have jc:=qb ((1:Int)+x.fmod 6).toNat (x.fdiv 6)
 generalize Au:(cT ((1:Int)+x.fmod 6).toNat (x.fdiv 6)).1=nm at I2 hlen e1 jc
 generalize hy:(cT ((1:Int)+x.fmod 6).toNat (x.fdiv 6)).2=y at I2 e1
 have AN:S1 X (n+1) (aw (top 52)) ((aX (bD (top 52) 1)).getD 0 (.Pass default)) (aS ρ "x" (.val (.int x))) b (.next ek b) :=
  pe▸S1.gP (i4.cons (SF.ip (gK (ai (bx ..)) aC av av)) (i4.cons (SF.lst aF) i4.nil)) rfl av (by rintro ⟨⟩ h;subst h;rfl)
 have BX:S1 X (n+1) (aw (top 52)) ((aX (bD (top 52) 1)).getD 1 (.Pass default)) ek b (.next ej b) :=
  S1.For (mH (cZ aC (cK (ai I1.x) aC av)) ((wb (ag (dB (bM (aJ 0) bc) (cU bc (aJ 6))) (bM (xN (aJ (2 ^ 62))) (cn (aJ 1) bc)))) hx) ((wb (ag (dB (bM (aJ 0) bc) (cU bc (aJ 6))) (cU (cn (aJ 1) bc) (aJ (2 ^ 62))))) hx)) hT
 have el:(nm.map fun c=>(⟨#[c]⟩:Qy)).map D.str=nm.map sgn:=by rw [Rk];rfl
 generalize uf:aS (aS ej "letters" (.val (.list (nm.map sgn)))) "name" (.val (.str (bR nm)))=gr
 have FZ:S1 X (n+1) (aw (top 52)) ((aX (bD (top 52) 1)).getD 2 (.Pass default)) ej b (.next gr b) :=
  uf▸cj (SE.toS (SE.join (SE.wu (SE.my I2.l) el.symm) (xb nm ((Lq 1 1 [gk (cn (aJ 1) bc)] (ag (dB (bM (aJ 0) bc) (cU bc (aJ 6))) (ag (aH aa aj) (aq aa (ae 10000))))) hx hlen))) (A9 nm))
 have n3:lk gr ("name":Qy)=some (.val (.str (bR nm))):=by subst uf;exact aR rfl
 have x3:lk gr ("x":Qy)=some (.val (.int x)):=by subst uf;exact aR (aR I2.x)
 have y3:lk gr ("y":Qy)=some (.val (.int y)):=by subst uf;exact aR (aR I2.y)
 have r3:lk gr ("rows":Qy)=some (.own (rs.map a8)):=by subst uf;exact aR (aR I2.r)
 have Ox:∀ c∈nm,c<1114112:=fun c hc=>(av:∀ c∈dA,c<1114112) c (jc c hc)
 have eN:(rs.map a8).map (fun d=>match d with|.tup [x,_]=>x|_=>.none)=rs.map fun r=>D.str (bR r.1):=by rw [Rk];rfl
 have test:ST X (n+1) (aw (top 52)) (match (aX (bD (top 52) 1)).getD 3 (.Pass default) with|.If t _ _ _=>t|_=>.Name "" default) gr b (!(rs.map (·.1)).contains nm) gr b :=
  cg (ai n3) (eN▸i7 (own:=true) (fW:=[]) (IT.own r3) av .nil .nil (bQ.all (fun _=>True) _ _ (fun d hd ρ _=>by
   obtain ⟨r,_,rfl⟩:=dj hd
   exact ⟨_,.name av av,trivial,SE.n5 (ai (bx ..)) aC av av rfl⟩) _ trivial) (by rw [Qu];exact Qx hz av))
   (xy rs nm▸aQ.DZ (.str (bR nm)) (rs.map fun r=>QG.str (bR r.1)) rfl (by rw [iq (fun (r:Row)=>QG.str (bR r.1)) (fun r=>D.str (bR r.1)) fun _=>rfl]) (gx (nE Ox)) (iQ _ _ fun r Ol=>nE (hr r Ol)))
 have KU:=numAt_eq x y
 have LS:([.int (x.fmod 100),.int ((x.fdiv 7).fmod (2 ^ 64)),.int (2 ^ 64-1)]:List D)[(y.fmod 3).toNat]?=some (.int (numAt x y:Int)):=by
  have:([.int (x.fmod 100),.int ((x.fdiv 7).fmod (2 ^ 64)),.int (2 ^ 64-1)]:List D)=([x.fmod 100,(x.fdiv 7).fmod (2 ^ 64),2 ^ 64-1]:List Int).map D.int:=rfl
  rw [this,QU,KU.1];rfl
 have MH:=de y (k:=3) av
 unfold dN
 rw [e1]
 cases c:(rs.map (·.1)).contains nm with
 | true =>
  rw [if_pos rfl]
  rw [c] at test
  exact ⟨gr,aG AN (aG BX (aG FZ (aG (S1.kI test bX) bX))),r3⟩
 | false =>
  rw [if_neg (by simp)]
  rw [c] at test
  refine ⟨_,aG AN (aG BX (aG FZ (aG (S1.qK test (aG (dI (SE.append r3 (SE.tup (au (ai n3) (au (SE.gA (dk (au (cK (ai x3) aC av) (au (cK (gK (ai x3) aC av av) (SE.pow aC aC av av av) av) (au (SE.sub (SE.pow aC aC av av av) aC) aF)))) (cK (ai y3) aC av) MH.1 ((wb (ag (dB (bM (aJ 0) bc) (cU bc (aJ 3))) (cU bc (aJ (2 ^ 63))))) MH) LS) aF))) r3 (by rw [Qu];exact Qx hz av))) bX)) bX))),?_⟩
  rw [Rc]
  exact aR rfl
end
noncomputable def drawn (ns:List Int):List Int:=if ns.length > 1 then (ns.drop 1).take 8 else [1,2,9]
noncomputable def fD (ns:List Int):List Row:=rowsOf (drawn ns)
theorem oK (rs:List Row) (x:Int):(dN rs x).length≤rs.length+1:=by
 unfold dN
 split
 ·exact @Hf _
 ·rw [QA];exact QV _
theorem DJ (x:Int):(∀ c∈(rowOf x).1,c∈dA)∧1≤(rowOf x).1.length∧(rowOf x).1.length≤6∧(rowOf x).2<18446744073709551616:=by
 have hx:=de x (k:=6) av
 unfold rowOf
 dsimp only
 refine ⟨qb _ _,?_,?_,(numAt_eq _ _).2⟩<;>rw [lY]<;>(first|exact (Lq 0 1 [gk (cn (aJ 1) bc)] (ag (dB (bM (aJ 0) bc) (cU bc (aJ 6))) (aq (ae 1) aa))) hx|exact (Lq 0 1 [gk (cn (aJ 1) bc)] (ag (dB (bM (aJ 0) bc) (cU bc (aJ 6))) (aq aa (ae 6)))) hx)
structure bH (rs:List Row):Prop where
 sgn:∀ r∈rs,∀ c∈r.1,c∈dA
 len:∀ r∈rs,1≤r.1.length∧r.1.length≤6
 num:∀ r∈rs,r.2<18446744073709551616
 nd:(rs.map (·.1)).Nodup
theorem bH.nil:bH []:=⟨(fun _ h=>nomatch h),(fun _ h=>nomatch h),(fun _ h=>nomatch h),List.Pairwise.nil⟩
theorem bH.add {rs:List Row}(h:bH rs) (x:Int):bH (dN rs x):=by
 unfold dN
 cases c:(rs.map (·.1)).contains (rowOf x).1 with
 | true=>rw [if_pos rfl];exact h
 | false =>
  rw [if_neg (by simp)]
  have k:=DJ x
  have mem:∀ r,r∈rs++[rowOf x]→r∈rs∨r=rowOf x:=fun r hr=>by simpa using hr
  refine ⟨fun r hr=>(mem r hr).elim (h.sgn r) fun e=>e▸k.1,fun r hr=>(mem r hr).elim (h.len r) fun e=>e▸⟨k.2.1,k.2.2.1⟩,fun r hr=>(mem r hr).elim (h.num r) fun e=>e▸k.2.2.2,?_⟩
  rw [Rc]
  refine Th.mpr ⟨h.nd,by simp,fun a ha b hb e=>?_⟩
  rw [QT,T6,QO] at hb
  subst e hb
  rw [← Bool.not_eq_true,List.contains_iff_mem] at c
  exact c ha
theorem wI:∀ (xs:List Int) (rs:List Row),bH rs→bH (xs.foldl dN rs)∧(xs.foldl dN rs).length≤rs.length+xs.length:=fun xs=>by
 induction xs with
 | nil =>
  exact fun rs h=>⟨h,QV _⟩
 | cons x xs bA =>
  intro rs h
  have ih:=bA (dN rs x) (h.add x)
  have:=oK rs x
  exact ⟨ih.1,(ji (ag (aq aa (ak a7 az)) (ag (aq a7 (ak aj (ae 1))) (aq aa (ak aj (ak az (ae 1))))))) ih.2 this⟩
theorem lX (ns:List Int):(drawn ns).length≤8∧0<(drawn ns).length:=by
 unfold drawn
 split
 ·rename_i h
  rw [SH,Sm];exact (Lq 1 0 [b9 aa (ae 1),AF (ae 8) aj] (ag (aD (ae 1) aa) (dB (aq az (ae 8)) (aD (ae 0) az)))) h
 ·exact ⟨by decide,by decide⟩
theorem ub (ns:List Int):bH (fD ns)∧(fD ns).length≤8:=by
 have h:=wI (drawn ns) [] .nil
 have:=(lX ns).1
 rw [QP] at h
 exact ⟨h.1,Qx h.2 (by rw [Sk];exact this)⟩
theorem oJ (rs:List Row) (x:Int):0<(dN rs x).length∧rs.length≤(dN rs x).length:=by
 unfold dN
 split
 ·rename_i h
  rw [List.contains_iff_mem] at h
  obtain ⟨r,hr,_⟩:=dj h
  exact ⟨List.length_pos_of_mem hr,QV _⟩
 ·rw [QA]
  exact ⟨by simp,by exact @He _ _⟩
theorem xl:∀ (xs:List Int) (rs:List Row),rs.length≤(xs.foldl dN rs).length:=fun xs=>by
 induction xs with
 | nil =>
  exact fun _=>QV _
 | cons x xs bA =>
  exact fun rs=>Qx (oJ rs x).2 (bA _)
theorem r6 (ns:List Int):0<(fD ns).length:=by
 have h:=(lX ns).2
 unfold fD rowsOf
 cases hd:drawn ns with
 | nil=>rw [hd] at h;exact absurd h av
 | cons x xs=>exact RF (oJ [] x).1 (xl xs _)
theorem ir {c:Nat}(h:c∈dA):32≤c∧c<127:=(av:∀ c∈dA,32≤c∧c<127) c h
section
variable {X:Cx}{P:bj}{n:Nat}{sc:QM}{ρ af ay:Rw}{b ao b₂:Array UInt8}
theorem tM (L:Lib0 X):∀ (xs:List Int) (rs:List Row) (ρ:Rw),rs.length+xs.length≤1000→bH rs→lk ρ ("rows":Qy)=some (.own (rs.map a8)) →
  ∃ ρ',ey X (n+1) (aw (top 52)) (dq (bD (top 52) 1)) (aX (bD (top 52) 1)) (xs.map D.int) ρ b (.next ρ' b)∧lk ρ' ("rows":Qy)=some (.own ((xs.foldl dN rs).map a8)):=fun xs=>by
 induction xs with
 | nil =>
  exact fun rs ρ _ _ I=>⟨ρ,.nil,I⟩
 | cons x xs bA =>
  intro rs ρ hl h I
  rw [QC] at hl
  obtain ⟨af,h1,I1⟩:=wH (n:=n) (b:=b) L (x:=x) ((cS (ag (aq (ak aa (ak aj (ae 1))) (ae 1000)) (aq aa (ae 1000)))) hl) (fun r hr c hc=>by have:=ir (h.sgn r hr c hc);exact CV this) I
  have:=oK rs x
  obtain ⟨ay,h2,I2⟩:=bA (dN rs x) af ((dC (ag (aq (ak az (ak aj (ae 1))) (ae 1000)) (ag (aq aa (ak az (ae 1))) (aq (ak aa aj) (ae 1000))))) hl this) (h.add x) I1
  exact ⟨ay,.next (.name av (by intro h;cases h)) h1 h2,I2⟩
theorem t9 (L:Lib0 X) {ns:List Int}(hz:ns.length≤1000):cb X (n+2) 437 [.list (ns.map D.int)] b (.ok (.list ((fD ns).map a8)) b):=by
 obtain ⟨fd,hF⟩:=L.fn 30 _ rfl
 have hl:=lX ns
 obtain ⟨ρ',hT,I'⟩:=tM (n:=n) (b:=b) L (drawn ns) [] (aS ((["script"]:List Qy).zip (([.list (ns.map D.int)]:List D).map En.val)) "rows" (.own [])) (by rw [QP];exact (dW (ag (dB (aq aa (ae 8)) (aD (ae 0) aa)) (aq (ak (ae 0) aa) (ae 1000)))) hl) .nil (aR rfl)
 have el:(((ns.map D.int).length:Nat):Int)=(ns.length:Int):=by rw [Qu]
 have eD:(ns.map D.int).drop 0=ns.map D.int:=rfl
 have it:SE X (n+1) (aw (top 52)) (match bD (top 52) 1 with|.For _ i _ _ _=>i|_=>.Name "" default) (aS ((["script"]:List Qy).zip (([.list (ns.map D.int)]:List D).map En.val)) "rows" (.own [])) b (.list ((drawn ns).map D.int)) (aS ((["script"]:List Qy).zip (([.list (ns.map D.int)]:List D).map En.val)) "rows" (.own [])) b:=by
  unfold drawn
  by_cases h:ns.length > 1
  ·have e:decide ((ns.length:Int) > 1)=true:=decide_eq_true ((cS (ag (aq aa (ae 1000)) (ag (cu (aL aj) (aL aa)) (ag (aD (ae 1) aa) (cU (aJ 1) (aL aa)))))) hz el h)
   have es:lN (ns.map D.int) (some 1) (some 9)=((ns.drop 1).take 8).map D.int:=by
    unfold lN
    show ((ns.map D.int).drop (clipAt _ (1:Int))).take (clipAt _ (9:Int)-clipAt _ (1:Int))=_
    rw [show (1:Int)=((1:Nat):Int) from rfl,show (9:Int)=((9:Nat):Int) from rfl,SQ,SQ,Qu,List.map_take,List.map_drop]
    have:=rD (ns.map D.int) 1 8
    rw [Qu] at this
    exact this
   rw [if_pos h]
   exact SE.qK (e▸cg (el▸SE.nY (ai rfl) (by rw [Qu];exact CU hz el h)) aC aQ.Iv) (es▸SE.DH (ai rfl) (.some aC) (.some aC) (by rw [Qu];exact CU hz el h))
  ·have e:decide ((ns.length:Int) > 1)=false:=decide_eq_false ((cS (ag (aq aa (ae 1000)) (ag (cu (aL aj) (aL aa)) (ag (bI (aD (ae 1) aa)) (bI (cU (aJ 1) (aL aa))))))) hz el h)
   rw [if_neg h]
   exact SE.kI (e▸cg (el▸SE.nY (ai rfl) (by rw [Qu];exact (cS (ag (aq aa (ae 1000)) (ag (cu (aL aj) (aL aa)) (ag (bI (aD (ae 1) aa)) (aq aa (ae 1000000)))))) hz el h)) aC aQ.Iv) (dk (au aC (au aC (au aC aF))))
 exact bV hF rfl av (aG (S1.lj (SF.lst aF)) (aG (S1.For (IT.list it) hT) (bF (bN (SE.my I')))))
end
noncomputable def wt (bits:Nat) (l:aU):Nat:=2 ^ (bits-l.1)
noncomputable def lF (bits t:Nat) (l:aU):Bool:=t / 2 ^ (bits-l.1)==l.2
structure bW (bits:Nat) (ls:List aU):Prop where
 dep:∀ l∈ls,l.1≤bits
 sum:(ls.map (wt bits)).sum=2 ^ bits
 lF:∀ t,t<2 ^ bits→ls.countP (lF bits t)=1
theorem bW.perm {bits:Nat}{a c:List aU}(h:bW bits a) (p:c.Perm a):bW bits c :=
 ⟨fun l hl=>h.dep l (p.mem_iff.mp hl),by rw [← h.sum];exact (p.map _).sum_nat,fun t ht=>by rw [p.countP_eq];exact h.lF t ht⟩
theorem bW.len {bits:Nat}{ls:List aU}(h:bW bits ls):ls.length≤2 ^ bits:=by
 rw [← h.sum]
 clear h
 induction ls with
 | nil=>simp
 | cons l r ih =>
  rw [QC,QT,Uw]
  have:0<wt bits l:=Ti av
  exact (dC (ag (aq aa az) (ag (aD (ae 0) aj) (aq (ak aa (ae 1)) (ak aj az))))) ih this
theorem bW.start (bits:Nat):bW bits [(0,0)]:=⟨fun l hl=>by rw [bq hl];exact RC _,by simp [wt],fun t ht=>by
 have:t / 2 ^ bits=0:=Nat.div_eq_of_lt ht
 simp [Mine.Internal.lF,this]⟩
theorem BA (q p:Nat):((0+if (q==2*p+1)=true then 1 else 0)+if (q==2*p)=true then 1 else 0)=0+if (q / 2==p)=true then 1 else 0:=by
 by_cases h1:q=2*p
 ·subst h1
  have:2*p / 2=p:=by exact @Ha _
  simp [this]
 ·by_cases h2:q=2*p+1
  ·subst h2
   have:(2*p+1) / 2=p:=by exact @G9 _
   simp [this]
  ·have:q / 2≠p:=by exact (Lq 2 0 [fO aa 2] (ag (bI (aH aa (dO 2 aj))) (ag (bI (aH aa (ak (dO 2 aj) (ae 1)))) (bI (aH az aj))))) h1 h2
   simp [h1,h2,this]
theorem xr (bits t d p:Nat) (h:d<bits):([(d+1,2*p),(d+1,2*p+1)]:List aU).countP (lF bits t)=([(d,p)]:List aU).countP (lF bits t):=by
 have e:2 ^ (bits-d)=2 ^ (bits-(d+1))*2:=by rw [← T5];congr 1;exact CP h
 have e2:t / 2 ^ (bits-d)=t / 2 ^ (bits-(d+1)) / 2:=by rw [e,Nat.div_div_eq_div_mul]
 simp only [TB,List.countP_nil,lF,e2]
 exact BA _ _
theorem bW.split {bits d p:Nat}{r:List aU}(h:bW bits ((d,p)::r)) (hd:d<bits):bW bits ((d+1,2*p)::(d+1,2*p+1)::r):=by
 refine ⟨fun l hl=>?_,?_,fun t ht=>?_⟩
 ·rcases bS hl with rfl|hl
  ·exact hd
  ·rcases bS hl with rfl|hl
   ·exact hd
   ·exact h.dep l (QD _ hl)
 ·rw [← h.sum]
  simp only [QT,Uw,wt]
  have e:2 ^ (bits-d)=2 ^ (bits-(d+1))*2:=by rw [← T5];congr 1;exact CP hd
  rw [e];exact @G8 _ _
 ·have h1:=h.lF t ht
  have h2:=xr bits t d p hd
  rw [TB] at h1
  rw [TB,TB]
  simp only [TB,List.countP_nil] at h2
  exact (ji (ag (aH (ak aa a7) (ae 1)) (ag (aH (ak (ak (ae 0) aj) az) (ak (ae 0) a7)) (aH (ak (ak aa aj) az) (ae 1))))) h1 h2
noncomputable def mi (bits:Nat) (ls:List aU):Nat:=(ls.map fun l=>2 ^ (bits-l.1+1)-1).sum
theorem rA (bits d p:Nat) (r:List aU) (h:d<bits):mi bits (r++[(d+1,2*p),(d+1,2*p+1)])<mi bits ((d,p)::r):=by
 unfold mi
 simp only [Rc,QT,T6,List.sum_append,Uw,List.sum_nil]
 have e:2 ^ (bits-d+1)=2 ^ (bits-(d+1)+1)*2:=by rw [← T5];congr 1;exact (Lq 2 0 [b9 aa aj,b9 aa (ak aj (ae 1))] (ag (aD aj aa) (aH (ak az (ae 1)) (ak (ak a7 (ae 1)) (ae 1))))) h
 have:0<2 ^ (bits-(d+1)+1):=Ti av
 exact (Lq 3 0 [b9 aj (ae 1),b9 az (ae 1)] (ag (aH az (cD aj 2)) (ag (aD (ae 0) aj) (aD (ak aa (ak a7 (ak a7 (ae 0)))) (ak cM aa))))) e this
theorem pF (bits d p:Nat) (r:List aU):mi bits r<mi bits ((d,p)::r):=by
 unfold mi
 rw [QT,Uw]
 have:2≤2 ^ (bits-d+1):=by
  rw [T5]
  have:0<2 ^ (bits-d):=Ti av
  exact (dW (ag (aD (ae 0) aa) (aq (ae 2) (cD aa 2)))) this
 show _<2 ^ (bits-d+1)-1+_
 exact (Lq 2 0 [b9 aj (ae 1)] (ag (aq (ae 2) aj) (aD aa (ak az aa)))) this
noncomputable def kX (l:aU):QG:=gQ l.1 l.2
theorem zj (ls:List aU):ofPys (ls.map kX)=ls.map ba:=iq kX ba (fun _=>rfl) ls
theorem kL (ls:List aU):shaped (.list (ls.map kX))=true:=by
 unfold shaped
 have h1:=iQ kX ls fun _ _=>rfl
 have h2:=qc kX 1 ls fun _ _=>QV _
 simp only [QG.canLay0,h1,QG.depth,Bool.true_and]
 exact decide_eq_true (yR h2)
section
variable {X:Cx}{P:bj}{n:Nat}{sc:QM}{ρ af ay:Rw}{b ao b₂:Array UInt8}
structure L9 (bits:Nat) (x:Int) (todo found:List aU) (ρ:Rw):Prop where
 b:lk ρ ("bits":Qy)=some (.val (.int (bits:Int)))
 x:lk ρ ("x":Qy)=some (.val (.int x))
 t:lk ρ ("todo":Qy)=some (.own (todo.map ba))
 f:lk ρ ("found":Qy)=some (.own (found.map ba))
theorem qG (L:cP X P) {bits:Nat}(hb:bits≤3):∀ (m:Nat) (todo found:List aU) (x:Int) (ρ:Rw),mi bits todo≤m→bW bits (todo++found)→L9 bits x todo found ρ →
  ∃ k ρ' out,ia X (n+1) (aw (top 54)) (qm (bD (top 54) 1)) (ny (bD (top 54) 1)) k ρ b (.next ρ' b)∧lk ρ' ("found":Qy)=some (.own (out.map ba))∧bW bits out:=by
 have z0:∀ {found:List aU}{x:Int}{ρ:Rw},bW bits ([]++found)→L9 bits x [] found ρ→∃ k ρ' out,ia X (n+1) (aw (top 54)) (qm (bD (top 54) 1)) (ny (bD (top 54) 1)) k ρ b (.next ρ' b)∧lk ρ' ("found":Qy)=some (.own (out.map ba))∧bW bits out:=fun {found x ρ} hI I=>by
  have e:(!QG.eqv (.list (([]:List aU).map kX)) (.list []))=false:=rfl
  exact ⟨0,ρ,found,.done (e▸ST.Mt (ps:=([]:List aU).map kX) I.t (kL [])),I.f,hI⟩
 intro m
 induction m with
 | zero =>
  intro todo found x ρ hm hI I
  cases todo with
  | nil=>exact z0 hI I
  | cons l r =>
   obtain ⟨d,p⟩:=l
   exact absurd (RF (pF bits d p r) hm) (TA _)
 | succ m bA =>
  intro todo found x ρ hm hI I
  cases todo with
  | nil=>exact z0 hI I
  | cons l r =>
   obtain ⟨d,p⟩:=l
   have hlen:=hI.len
   have kZ:2 ^ bits≤8:=by
    have:(2:Nat) ^ bits≤2 ^ 3:=Q3 av hb
    exact this
   rw [QA,QC] at hlen
   have hd:d≤bits:=hI.dep (d,p) (by simp)
   have eT:(!QG.eqv (.list (((d,p)::r).map kX)) (.list []))=true:=rfl
   have test:ST X (n+1) (aw (top 54)) (qm (bD (top 54) 1)) ρ b true ρ b:=eT▸ST.Mt (ps:=((d,p)::r).map kX) (by rw [zj];exact I.t) (kL _)
   generalize pe:stores (aS ρ "todo" (.own (r.map ba))) ((["depth","prefix"]:List Qy).zip (([.int (d:Int),.int (p:Int)]:List D).map En.val))=ek
   have lu:∀ z,lk ek z=if z="prefix" then some (.val (.int (p:Int))) else if z="depth" then some (.val (.int (d:Int))) else if z="todo" then some (.own (r.map ba)) else lk ρ z:=fun z=>pe▸Kn
   have AN:S1 X (n+1) (aw (top 54)) ((ny (bD (top 54) 1)).getD 0 (.Pass default)) ρ b (.next ek b) :=
    pe▸S1.jR (ds:=[.int (d:Int),.int (p:Int)]) (SE.J3 (d:=ba (d,p)) (ds:=r.map ba) I.t (by rw [Qu];exact (dC (ag (aq (ak (ak aa (ae 1)) aj) az) (ag (aq az (ae 8)) (aq aa (ae 1000000))))) hlen kZ)) (.cons (.cons .nil)) rfl av
   have fin:∀ {BV zN:List aU}{ej:Rw},lk ej ("bits":Qy)=some (.val (.int (bits:Int)))→lk ej ("x":Qy)=some (.val (.int x))→lk ej ("todo":Qy)=some (.own (BV.map ba))→lk ej ("found":Qy)=some (.own (zN.map ba))→L9 bits (x.fdiv 3) BV zN (aS ej "x" (.val (.int (x.fdiv 3)))):=fun h1 h2 h3 h4 =>
    ⟨aR h1,aR rfl,aR h3,aR h4⟩
   have AM:ST X (n+1) (aw (top 54)) (match (ny (bD (top 54) 1)).getD 1 (.Pass default) with|.If t _ _ _=>t|_=>.Name "" default) ek b (decide ((d:Int)<(bits:Int))&&decide (x.fmod 3 > 0)) ek b :=
    ST.Ae (cg (ai ((lu _).trans rfl)) (ai ((lu _).trans I.b)) aQ.ltI) fun _=>cg (cK (ai ((lu _).trans I.x)) aC av) aC aQ.Iv
   cases c:(decide ((d:Int)<(bits:Int))&&decide (x.fmod 3 > 0)) with
   | true =>
    rw [c] at AM
    have M7:d<bits:=by
     rw [R5,decide_eq_true_iff] at c
     exact Int.ofNat_lt.mp c.1
    have e2:([.tup [.int ((d:Int)+1),.int (2*(p:Int))],.tup [.int ((d:Int)+1),.int (2*(p:Int)+1)]]:List D)=([(d+1,2*p),(d+1,2*p+1)]:List aU).map ba:=rfl
    have FG:bW bits (r++[(d+1,2*p),(d+1,2*p+1)]++found):=by
     refine (bW.split (hI:bW bits ((d,p)::(r++found))) M7).perm ?_
     have:r++[(d+1,2*p),(d+1,2*p+1)]++found=r++(d+1,2*p)::(d+1,2*p+1)::found:=Q9 ..
     rw [this]
     refine List.perm_middle.trans (List.Perm.cons _ ?_)
     exact List.perm_middle
    obtain ⟨k,ρ',out,hT,hf,ho⟩:=bA (r++[(d+1,2*p),(d+1,2*p+1)]) found (x.fdiv 3) _ (by have:=rA bits d p r M7;exact CO hm this) FG
     (fin (ej:=aS ek "todo" (.own ((r++[(d+1,2*p),(d+1,2*p+1)]).map ba))) (aR ((lu _).trans I.b)) (aR ((lu _).trans I.x)) (aR rfl) (aR ((lu _).trans I.f)))
    have x3:lk (aS ek "todo" (.own ((r++[(d+1,2*p),(d+1,2*p+1)]).map ba))) ("x":Qy)=some (.val (.int x)):=aR ((lu _).trans I.x)
    refine ⟨k+1,ρ',out,.next test (aG AN (aG (S1.qK AM (aG (dI (d:=.none) ?_) bX)) (aG (cj (gK (ai x3) aC av av)) bX))) hT,hf,ho⟩
    rw [Rc]
    exact SE.extend ((lu _).trans rfl) (e2▸dk (au (SE.tup (au (cZ (ai ((lu _).trans rfl)) aC) (au (dH aC (ai ((lu _).trans rfl)) (.of_left (PySem.intBits_le_64 av av))) aF))) (au (SE.tup (au (cZ (ai ((lu _).trans rfl)) aC) (au (cZ (dH aC (ai ((lu _).trans rfl)) (.of_left (PySem.intBits_le_64 av av))) aC) aF))) aF))) ((lu _).trans rfl) (by rw [Qu,Qu];simp only [QC,QP];exact (dC (ag (aq (ak (ak aa (ae 1)) aj) az) (ag (aq az (ae 8)) (aq (ak aa (ak (ak (ae 0) (ae 1)) (ae 1))) (ae 1000000))))) hlen kZ)
   | false =>
    rw [c] at AM
    have FG:bW bits (r++(found++[(d,p)])):=by
     refine (hI:bW bits ((d,p)::(r++found))).perm ?_
     rw [← Q9]
     exact List.perm_append_singleton _ _
    obtain ⟨k,ρ',out,hT,hf,ho⟩:=bA r (found++[(d,p)]) (x.fdiv 3) _ (by have:=pF bits d p r;exact CO hm this) FG
     (fin (ej:=aS ek "found" (.own ((found++[(d,p)]).map ba))) (aR ((lu _).trans I.b)) (aR ((lu _).trans I.x)) (aR ((lu _).trans rfl)) (aR rfl))
    have x4:lk (aS ek "found" (.own ((found++[(d,p)]).map ba))) ("x":Qy)=some (.val (.int x)):=aR ((lu _).trans I.x)
    refine ⟨k+1,ρ',out,.next test (aG AN (aG (S1.kI AM (aG (dI (d:=.none) ?_) bX)) (aG (cj (gK (ai x4) aC av av)) bX))) hT,hf,ho⟩
    rw [Rc]
    exact SE.append ((lu _).trans I.f) (SE.tup (au (ai ((lu _).trans rfl)) (au (ai ((lu _).trans rfl)) aF))) ((lu _).trans I.f) (by rw [Qu];exact (dC (ag (aq (ak (ak aj (ae 1)) aa) az) (ag (aq az (ae 8)) (aq aa (ae 1000000))))) hlen kZ)
theorem qH (L:cP X P) {bits:Nat}(hb:bits≤3) {x:Int}:∃ ls,bW bits ls∧cb X (n+2) 449 [.int (bits:Int),.int x] b (.ok (.list (ls.map ba)) b):=by
 obtain ⟨fd,hF⟩:=L.fn 32 _ rfl
 obtain ⟨k,ρ',out,hT,hf,ho⟩:=qG (n:=n) (b:=b) L hb (mi bits [(0,0)]) [(0,0)] [] x (stores ((["bits","x"]:List Qy).zip (([.int (bits:Int),.int x]:List D).map En.val)) ((["todo","found"]:List Qy).reverse.zip ([.own [ba (0,0)],.own []]:List En).reverse)) (QV _) (bW.start bits) ⟨rm,rm,rm,rm⟩
 exact ⟨out,ho,bV hF rfl av (aG (S1.gP (i4.cons (SF.lst (au (SE.tup (au aC (au aC aF))) aF)) (i4.cons (SF.lst aF) i4.nil)) rfl av (by rintro ⟨⟩ h;subst h;rfl))
  (aG (S1.While hT) (bF (bN (SE.my hf)))))⟩
end
section
variable {prog:Rn}{w:RE}{A:QE}{R:Result→Qs→Prop}{s:Qs}
abbrev iE (elt t1 i1 t2 i2:QR) (scope:QM) (pos:Rd):QR:=.ListComp elt [⟨t1,i1,[],0⟩,⟨t2,i2,[],0⟩] scope pos
theorem sM (elt t1 i1 t2 i2:QR) (scope:QM) (pos:Rd) (it acc:Qr) (env:TU):compTurn (iE elt t1 i1 t2 i2 scope pos) 1 it acc env=(standAt i2.pos>>=fun _=>pyNext it>>=fun r=>match r with
   | none=>pure (.done .next)
   | some v=>letOwnedTupleGo t2 it v>>=fun _=>PySem.assign t2 env v>>=fun _ =>
    (eval elt env>>=fun x=>call (.builtin "list.append") [acc,x]>>=fun _=>pure ())>>=fun _=>again (.compLoop (iE elt t1 i1 t2 i2 scope pos) 1 it acc env)):=by rfl
theorem q7 (elt t1 i1 t2 i2:QR) (scope:QM) (pos:Rd) (it acc:Qr) (env:TU):compTurn (iE elt t1 i1 t2 i2 scope pos) 0 it acc env=(standAt i1.pos>>=fun _=>pyNext it>>=fun r=>match r with
   | none=>pure (.done .next)
   | some v=>letOwnedTupleGo t1 it v>>=fun _=>PySem.assign t1 env v>>=fun _ =>
    eval i2 env>>=fun x=>standAt i2.pos>>=fun _=>foldedSetIterable i2 env x>>=fun x=>holding [x] (pyIter x)>>=fun Ji =>
     runOwn (.compStart (iE elt t1 i1 t2 i2 scope pos) 1 Ji acc env) env>>=fun _=>again (.compLoop (iE elt t1 i1 t2 i2 scope pos) 0 it acc env)):=by rfl
theorem oB {elt t1 i1 t2 i2:QR}{scope:QM}{pos:Rd}{it acc:Qr}{env:TU}(I:Nat→Qs→Prop)
  (turn:∀ n s,I n s→∀ E,QF (QJ prog w) A (pyNext it) (fun r ah=>match r with
   | none=>R (.ok .next) ah
   | some v=>QF (QJ prog w) A (letOwnedTupleGo t2 it v) (fun _ mj=>QF (QJ prog w) A (PySem.assign t2 env v) (fun _ bk=>QF (QJ prog w) A (eval elt env) (fun x cq =>
       QF (QJ prog w) A (call (.builtin "list.append") [acc,x]) (fun _ fR=>∃ m,m<n∧I m fR) E cq) E bk) E mj) E ah) E s)
  (n:Nat) (h:I n s):RS (QJ prog w) A (.compLoop (iE elt t1 i1 t2 i2 scope pos) 1 it acc env) R s:=by
 refine Up rfl I (fun n s hI=>?_) n h
 show QF _ A ((compTurn (iE elt t1 i1 t2 i2 scope pos) 1 it acc env).onRaise (fun x=>do noteFrame x env;theTreesLotGoes x)) _ _ s
 refine UH ?_
 rw [sM]
 refine Qq (Q2 (Qq (Q7 (turn n s hI _) (fun r ah h₁=>?_) fun _ _ h'=>h')))
 cases r with
 | none=>exact Qv h₁
 | some v =>
  refine Qq (Q7 h₁ (fun _ mj sb=>?_) fun _ _ h'=>h')
  refine Qq (Q7 sb (fun _ bk eR=>?_) fun _ _ h'=>h')
  exact Qq (Qq (Q7 eR (fun x cq n6=>Qq (Q7 n6 (fun _ fR mP=>Qv (Qv ⟨rfl,mP⟩)) fun _ _ h'=>h')) fun _ _ h'=>h'))
theorem mT {elt t1 i1 t2 i2:QR}{scope:QM}{pos:Rd}{it acc:Qr}{env:TU}(I:Nat→Qs→Prop) (hs:∀ x,foldedSetIterable i2 env x=pure x)
  (turn:∀ n s,I n s→∀ E,QF (QJ prog w) A (pyNext it) (fun r ah=>match r with
   | none=>R (.ok .next) ah
   | some v=>QF (QJ prog w) A (letOwnedTupleGo t1 it v) (fun _ mj=>QF (QJ prog w) A (PySem.assign t1 env v) (fun _ bk=>QF (QJ prog w) A (eval i2 env) (fun x b4=>QF (QJ prog w) A (pyIter x) (fun Ji cq =>
     RS (QJ prog w) A (.compStart (iE elt t1 i1 t2 i2 scope pos) 1 Ji acc env) (fun r fR=>r=.ok .next∧∃ m,m<n∧I m fR) cq) E b4) E bk) E mj) E ah) E s)
  (n:Nat) (h:I n s):RS (QJ prog w) A (.compLoop (iE elt t1 i1 t2 i2 scope pos) 0 it acc env) R s:=by
 refine Up rfl I (fun n s hI=>?_) n h
 show QF _ A ((compTurn (iE elt t1 i1 t2 i2 scope pos) 0 it acc env).onRaise (fun x=>do noteFrame x env;theTreesLotGoes x)) _ _ s
 refine UH ?_
 rw [q7]
 refine Qq (Q2 (Qq (Q7 (turn n s hI _) (fun r ah h₁=>?_) fun _ _ h'=>h')))
 cases r with
 | none=>exact Qv h₁
 | some v =>
  refine Qq (Q7 h₁ (fun _ mj sb=>?_) fun _ _ h'=>h')
  refine Qq (Q7 sb (fun _ bk eR=>?_) fun _ _ h'=>h')
  refine Qq (Q7 eR (fun x b4 gB=>?_) fun _ _ h'=>h')
  refine Qq (Q2 (Qq (Q4 (hs x) (Qq (Q0 (Q7 gB (fun Ji cq n6=>?_) fun _ _ h'=>h'))))))
  refine Qq (wpAny_runOwn (TN n6 fun r fR mP=>?_) (by intro x;cases x))
  obtain ⟨rfl,mP⟩:=mP
  exact Qv ⟨rfl,mP⟩
theorem mU {elt t1 i1 t2 i2:QR}{scope:QM}{pos:Rd}{it acc:Qr}{env:TU}
  (h0:RS (QJ prog w) A (.compLoop (iE elt t1 i1 t2 i2 scope pos) 1 it acc env) R s)
  (h:QF (QJ prog w) A (pyIter it) (fun MD s'=>RS (QJ prog w) A (.compLoop (iE elt t1 i1 t2 i2 scope pos) 1 MD acc env) R s') (notedBy (QJ prog w) A env fun x s'=>R (.error x) s') s) :
  RS (QJ prog w) A (.compStart (iE elt t1 i1 t2 i2 scope pos) 1 it acc env) R s:=by
 refine Sq ?_
 show QF _ _ ((compStart (iE elt t1 i1 t2 i2 scope pos) 1 it acc env).onRaise (fun x=>do noteFrame x env;standAt theWindowsPlace)) _ _ s
 refine wpAny_notedAt ?_
 unfold compStart
 show QF _ _ (ask>>=_) _ _ s
 refine Qq (S7 (wpAny_ite ?_))
 split
 ·first
   | exact Qq (Qv (Qv (And.intro rfl h0)))
   | exact Qv (And.intro rfl h0)
 ·refine Qq (SO ?_)
  refine Qq (Q2 ?_)
  exact Qq (Q7 h (fun MD s' h'=>Qv (And.intro rfl h')) fun _ _ e=>e)
end
section
variable {X:Cx}{A:QE}{fc:FD}{ah s' dG:Qs}{aE g' gF gW:GM}{wr nu fp Bm:List Qt}{Da I I2:Qt}{St AD:Nat→QL→Prop}{Md IS:Nat→Qr→QL→Prop}{b:Array UInt8}{i:Nat}{oc xH:Qy→List Qt}{ρ' dQ:Rw}{cL:List Qr}{c9 ds ng:List D}{target t2:QR}
noncomputable def uT (X:Cx) (A:QE) (ah:Qs) (wr fp:List Qt) (g':GM):Prop:=∀ a∈fp,a∈wr∨g' a≠none∨((∃ ob,ah.heap.get? a=some ob)∧a∉X.V.mt∧a∉fL A)
theorem CI.u5 (W:Src X A target I fp wr gW ds St Md) (uk:∀ a∈fc.fx,ah.heap.get? a=none) (hp:uT X A ah wr fp g')
  (Y:CI X A fc ah aE wr Da St b i g' oc ρ' cL c9 s') (F':FR X.B X.V A fc gF xH dQ b dG) (S:Step X.V A fc g' oc s' gF xH dG):CI X A fc ah aE wr Da St b i gF xH dQ cL c9 dG:=by
 have hf:∀ a,(a∈fc.fx∨∃ y,a∈oc y)→ah.heap.get? a=none:=fun a h=>h.elim (uk a) fun ⟨y,h⟩=>Y.B1 y a h
 obtain ⟨C',DQ⟩:=Y.C.rB S hf (W.live _ _ Y.st)
 refine ⟨F',C',DQ,?_,?_,?_,?_,Y.rep.mono S.gm⟩
 ·refine W.frame _ _ _ Y.st fun a ha ob q=>?_
  by_cases hw:a∈wr
  ·exact ((Y.wU a hw).step S q).2
  ·rcases hp a ha with h|h|⟨⟨b0,h1⟩,h2,h3⟩
   ·exact absurd h hw
   ·exact S.kept.keep a ob q (fun hm=>h (Y.F.f9 a hm)) fun hm=>h (Y.F.lE a hm)
   ·refine S.kept.keep a ob q (fun hm=>?_) h3
    rcases hm with h|h|h
    ·exact dP (hf a (.inl h)) h1
    ·exact h2 h
    ·rw [hf a (.inr h)] at h1;cases h1
 ·obtain ⟨nn,e⟩:=Y.Dl
  exact ⟨nn,(Y.DU.step S e).2⟩
 ·obtain ⟨nn,e⟩:=Y.Dl
  exact (Y.DU.step S e).1
 ·intro a ha
  obtain ⟨ob,e⟩:=W.live _ _ Y.st a ha
  exact ((Y.wU a ha).step S e).1
theorem CI.xQ {h':QL}{tk:Nat}{j:Nat}(W:Src X A target I fp wr gW ds St Md) (Ay:Da∉wr) (Y:CI X A fc ah aE wr Da St b i g' oc ρ' cL c9 s')
  (gm:∀ a ob,g' a=some ob→gF a=some ob) (gn:∀ a,g' a=none→gF a≠none→s'.heap.get? a=none) (gs:∀ a ob,gF a=some ob→h'.get? a=some ob) (k:∀ a ob,a∉wr→s'.heap.get? a=some ob→h'.get? a=some ob)
  (st:St j h'):CI X A fc ah aE wr Da St b j gF oc ρ' cL c9 ⟨h',s'.gens,s'.drawn,tk,s'.os⟩:=by
 obtain ⟨nn,e⟩:=Y.Dl
 have ug:∀ a,dh X.B X.V A fc g' oc a→(∃ ob,s'.heap.get? a=some ob)→dh X.B X.V A fc gF oc a:=fun a U ⟨ob,q⟩=>by
  refine { U with g:=?_ }
  cases e2:gF a with
  | none=>rfl
  | some b0 =>
   have:=gn a U.g (by rw [e2];exact fun z=>nomatch z)
   rw [q] at this;cases this
 exact ⟨Y.F.wr Y.wU gm gn gs k,Y.C.lK (fun a h=>.inl h) gm gn k,Y.B1,st,⟨nn,k Da _ Ay e⟩,ug Da Y.DU ⟨_,e⟩,fun a h=>ug a (Y.wU a h) (W.live _ _ Y.st a h),Y.rep.mono gm⟩
theorem CI.F7 {h':QL}{tk:Nat}{v:Qr}{d:D}(W:Src X A target I fp wr gW ds St Md) (Im:Da∉fp) (hD:ah.heap.get? Da=none) (Y:CI X A fc ah aE wr Da St b i g' oc ρ' cL c9 s')
  (hv:Rep g' X.V.obj v d) (hl:h'.PlainList Da (cL.toArray.push v)) (hs:QL.SameBut Da s'.heap h'):CI X A fc ah aE wr Da St b i g' oc ρ' (cL++[v]) (c9++[d]) ⟨h',s'.gens,s'.drawn,tk,s'.os⟩:=by
 have k:∀ a ob,a∉[Da]→s'.heap.get? a=some ob→h'.get? a=some ob:=fun a ob h q=>hs.extBut a ob (fun z=>h (by rw [z];exact QO.mpr rfl)) q
 have gs:∀ a ob,g' a=some ob→h'.get? a=some ob:=fun a ob q=>k a ob (fun h=>by have e:=Y.DU.g;rw [← bq h,q] at e;cases e) (Y.F.bf a ob q)
 refine ⟨Y.F.wr (wr:=[Da]) (fun a h=>by cases bq h;exact Y.DU) (fun _ _ q=>q) (fun _ q q'=>absurd q q') gs k,
  Y.C.lK (ws:=[Da]) (fun a h=>by cases bq h;exact .inr hD) (fun _ _ q=>q) (fun _ q q'=>absurd q q') k,Y.B1,?_,?_,Y.DU,Y.wU,Y.rep.append (.one hv)⟩
 ·exact W.frame _ _ _ Y.st fun a ha ob q=>k a ob (fun h=>Im (bq h▸ha)) q
 ·rwa [show (cL++[v]).toArray=cL.toArray.push v by simp]
theorem Src.both (W:Src X A target I fp wr aE ds St Md) (W2:Src X A t2 I2 Bm nu gF ng AD IS) (k:Nat) (hd:∀ a∈fp,a∉nu) :
  Src X A t2 I2 (fp++Bm) (wr++nu) gF ng (fun j h=>St k h∧AD j h) (fun j v h=>St k h∧IS j v h) where
 sub a h:=Sh.mpr ((i9 h).imp (W.sub a) (W2.sub a))
 live j h st a ha:=(i9 ha).elim (W.live k h st.1 a) (W2.live j h st.2 a)
 frame j h h' st kp:=⟨W.frame k h h' st.1 fun a ha=>kp a (Rf _ ha),W2.frame j h h' st.2 fun a ha=>kp a (QZ _ ha)⟩
 item j d g s Q E oV st gm gs gw q:=W2.item j d g s Q E oV st.2 gm gs (fun a ha=>gw a (QZ _ ha)) fun v g' h' tk k1 k2 k3 k4 k5 k6 =>
  q v g' h' tk k1 k2 k3 k4 ⟨W.frame k _ _ st.1 fun a ha ob e=>k6 a ob (hd a ha) e,k5⟩ fun a ob ha e=>k6 a ob (fun z=>ha (QZ _ z)) e
 go j v s Q E md q:=W2.go j v s Q E md.2 fun h' st k6=>q h' ⟨W.frame k _ _ md.1 fun a ha ob e=>k6 a ob (hd a ha) e,st⟩ fun a ob ha e=>k6 a ob (fun z=>ha (QZ _ z)) e
 done s Q E st q:=W2.done s Q E st.2 fun h' tk k6=>q h' tk fun a ob ha e=>k6 a ob (fun z=>ha (QZ _ z)) e
 self j s Q E st q:=W2.self j s Q E st.2 q
end
inductive BR (X:Cx) (n:Nat) (sc:QM) (t elt:QR) (b:Array UInt8):List D→Rw→List D→Rw→Prop
 | nil {ρ:Rw}:BR X n sc t elt b [] ρ [] ρ
 | cons {d x:D}{ds out:List D}{ρ ρ' dQ:Rw}:pA sc true t d ρ ρ'→SE X n sc elt ρ' b x ρ' b→BR X n sc t elt b ds ρ' out dQ→BR X n sc t elt b (d::ds) ρ (x::out) dQ
inductive uU (X:Cx) (n:Nat) (sc:QM) (t1 i2 t2 elt:QR) (b:Array UInt8):List D→Rw→List D→Prop
 | nil {ρ:Rw}:uU X n sc t1 i2 t2 elt b [] ρ []
 | cons {d:D}{ds ng mM out:List D}{ρ ρ' ay dQ:Rw}:pA sc true t1 d ρ ρ'→IT X n sc false t2 i2 ρ' b ng ay b→BR X n sc t2 elt b ng ay mM dQ→uU X n sc t1 i2 t2 elt b ds dQ out→uU X n sc t1 i2 t2 elt b (d::ds) ρ (mM++out)
section
variable {X:Cx}{n:Nat}{sc scope:QM}{A:QE}{fc:FD}{ah s' dG:Qs}{aE bl g' gF:GM}{wr nu fp Bm:List Qt}{Da I I2:Qt}{St AD:Nat→QL→Prop}{Md IS:Nat→Qr→QL→Prop}{b:Array UInt8}{k:Nat}{oc xH:Qy→List Qt}{ρ ρ' dQ:Rw}{cL:List Qr}{c9 ds ng mM:List D}{target elt t1 i1 t2 i2:QR}{pos:Rd}
theorem uT.mono (h:uT X A ah wr fp g') (m:∀ a ob,g' a=some ob→gF a=some ob):uT X A ah wr fp gF:=fun a ha=>(h a ha).imp id fun h=>h.imp (fun q=>by
 cases e:g' a with
 | none=>exact absurd e q
 | some ob=>rw [m a ob e];exact fun z=>nomatch z) id
inductive P1 (X:Cx) (n:Nat) (sc:QM) (t2 elt:QR) (b:Array UInt8) (ng c9 mM:List D) (dQ:Rw) (A:QE) (fc:FD) (ah:Qs) (aE bl:GM) (wr nu:List Qt) (Da:Qt) (St AD:Nat→QL→Prop) (k m:Nat) (s':Qs):Prop
 | mk (i:Nat) (g':GM) (oc:Qy→List Qt) (Fe:Rw) (cL:List Qr) (wV rest:List D) (hk:i+m=ng.length+1) (hle:i≤ng.length) (gm:∀ a ob,bl a=some ob→g' a=some ob) (Y:CI X A fc ah aE (wr++nu) Da (fun j h=>St k h∧AD j h) b i g' oc Fe cL wV s') (hT:BR X n sc t2 elt b (ng.drop i) Fe rest dQ) (g4:c9++mM=wV++rest) (ft:wV.length≤c9.length+i)
theorem BC {RR:Result→Qs→Prop}{s:Qs}{scope':QM}(W:Src X A target I fp wr aE ds St Md) (W2:Src X A t2 I2 Bm nu bl ng AD IS) (uk:∀ a∈fc.fx,ah.heap.get? a=none)
  (hp:uT X A ah (wr++nu) (fp++Bm) bl) (Ay:Da∉wr++nu) (Im:Da∉fp++Bm) (hD:ah.heap.get? Da=none) (HX:∀ a∈fp,a∉nu) (Jl:∀ a∈nu,ah.heap.get? a=none)
  (R:cG A n) (e1:fc.env.scope=sc) (xh:fc.pin=[]) (T:BR X n sc t2 elt b ng ρ' mM dQ) (hz:c9.length+ng.length≤900000)
  (Y:CI X A fc ah aE (wr++nu) Da (fun j h=>St k h∧AD j h) b 0 bl oc ρ' cL c9 s)
  (Ii:∀ g' xH yz s',(∀ a ob,bl a=some ob→g' a=some ob)→CI X A fc ah aE wr Da St b k g' xH dQ yz (c9++mM) s'→RR (.ok .next) s') :
  RS (QJ X.prog X.w) A (.compLoop (iE elt t1 i1 t2 i2 scope' pos) 1 (.ref I2) (.ref Da) fc.env) RR s:=by
 have WB:=Src.both W W2 k HX
 refine oB (P1 X n sc t2 elt b ng c9 mM dQ A fc ah aE bl wr nu Da St AD k) (fun m s' I' E'=>hide fun H kH=>?_) (ng.length+1) ⟨0,bl,oc,ρ',cL,c9,mM,Sk _,RC _,fun _ _ h=>h,Y,T,rfl,QV _⟩
 obtain ⟨i,g',oc,Fe,cL,wV,rest,hk,hle,LJ,Y,hT,g4,ft⟩:=I'
 cases hd:ng[i]? with
 | none =>
  have hlen:ng.length≤i:=List.getElem?_eq_none_iff.mp hd
  rw [RV hlen] at hT
  have hr:rest=[]∧Fe=dQ:=by cases hT;exact ⟨rfl,rfl⟩
  have g4:c9++mM=wV:=by rw [g4,hr.1,Sj]
  have hi:i=ng.length:=Nat.le_antisymm hle hlen
  refine kH (W2.done s' _ _ (hi▸Y.st.2) fun h' tk j0=>Ii g' oc cL _ LJ (hide fun jN jZ=>?_))
  have Mi:∀ a∈nu,dh X.B X.V A fc g' oc a:=fun a ha=>Y.wU a (QZ _ ha)
  have C':=Y.C.lK (ws:=nu) (tk:=tk) (dr:=s'.drawn) (fun a h=>.inl (QZ _ h)) (fun _ _ q=>q) (fun _ q q'=>absurd q q') j0
  have nw:∀ a ob,ah.heap.get? a=some ob→a∉wr→a∉wr++nu:=fun a ob q h h'=>(i9 h').elim h fun h=>by exact dP (Jl a h) q
  obtain ⟨nn,Pk⟩:=Y.Dl
  have YY:CI X A fc ah aE wr Da St b k g' oc Fe cL wV ⟨h',s'.gens,s'.drawn,tk,s'.os⟩:=⟨Y.F.wr Mi (fun _ _ q=>q) (fun _ q q'=>absurd q q') (fun a ob q=>j0 a ob (fun h=>by rw [(Mi a h).g] at q;cases q) (Y.F.bf a ob q)) j0,⟨fun a ob q h1 h2 h3=>C'.kp a ob q (nw a ob q h1) h2 h3,fun a ob q h1 h2=>C'.sl a ob q (nw a ob q h1) h2,fun a ob q h=>C'.lv a ob q (nw a ob q h),C'.gm,fun a q q'=>(C'.gn a q q').elim .inl fun h=>(i9 h).elim .inr fun h=>.inl (Jl a h),C'.os⟩,Y.B1,W.frame k _ _ Y.st.1 fun a ha ob q=>j0 a ob (fun h=>HX a ha h) q,⟨nn,j0 Da _ (fun h=>Ay (QZ _ h)) Pk⟩,Y.DU,fun a h=>Y.wU a (Rf _ h),Y.rep⟩
  exact jZ (by rw [g4,← hr.2];exact YY)
 | some d =>
  have fE:i<ng.length:=(g7 hd).1
  have n9:ng.drop i=d::ng.drop (i+1):=(List.drop_eq_getElem_cons fE).trans (congrArg (·::ng.drop (i+1)) (g7 hd).2)
  rw [n9] at hT
  refine kH (WB.item i d g' s' _ _ hd Y.st LJ Y.F.bf (fun a ha=>(Y.wU a ha).g) fun v gO eR tk gm gn gs rv md iY=>WB.go i v _ _ _ md fun gB ml iX=>hide fun jN jZ=>?_)
  have ug:∀ a∈wr++nu,gO a=none:=fun a ha=>by
   obtain ⟨ob,q⟩:=WB.live _ _ Y.st a ha
   cases e2:gO a with
   | none=>rfl
   | some b0 =>
    have:=gn a (Y.wU a ha).g (by rw [e2];exact fun z=>nomatch z)
    rw [q] at this;cases this
  have LI:∀ a ob,bl a=some ob→gO a=some ob:=fun a ob q=>gm a ob (LJ a ob q)
  have sZ:=CI.xQ (tk:=tk) (j:=i+1) WB Ay Y gm gn (fun a ob q=>iX a ob (fun h=>by exact dP (ug a h) q) (gs a ob q)) (fun a ob h q=>iX a ob h (iY a ob h q)) ml
  cases hT with
  | @cons _ x _ rJ _ Mh _ jB ED gC =>
   refine jZ (dU (f:=fc) jB R.1 e1 (.inr rfl) (fun p h=>by rw [xh] at h;cases h) sZ.F rv fun gy cq fz fS=>?_)
   have je:=CI.u5 WB uk (hp.mono LI) sZ fz fS
   refine ED A fc gO gy cq _ E' R e1 je.F fun u EG DM DE Fb BI ru=>?_
   have uO:=CI.u5 WB uk (hp.mono LI) je Fb BI.toStep
   have Kv:cL.length≤900000:=by rw [uO.rep.length];exact (xD (ag (aq (ak aj az) (ae 900000)) (ag (aH (ak a7 cM) (ak az (ae 1))) (ag (aq aa (ak aj a7)) (ag (aD a7 az) (aq aa (ae 900000))))))) hz hk ft fE
   refine SU (hsz:=by rw [QH];exact Qx Kv av) uO.Dl fun zt zw kY=>?_
   have E1:=CI.F7 (tk:=DE.toks) WB Im hD uO ru zw kY
   exact ⟨m-1,by exact yU hk fE,⟨i+1,EG,DM,Mh,_,_,rJ,by exact yS hk fE,fE,fun a ob q=>BI.gm a ob (LI a ob q),E1,gC,by rw [g4,Q9];rfl,by rw [QA];simp only [Sl];exact (dC (ag (aq aa (ak aj az)) (aq (ak aa (ae 1)) (ak aj (ak az (ae 1)))))) ft⟩⟩
end
section
variable {X:Cx}{n:Nat}{sc scope:QM}{ρ af ay gM ki:Rw}{b ao b₂:Array UInt8}{fW:List Qy}{own:Bool}{target iter elt t2 i2:QR}{ds out:List D}{pos:Rd}
theorem BR.len {ρ ρ':Rw}{b:Array UInt8}{ds out:List D}{sc:QM}{t:QR}(h:BR X n sc t elt b ds ρ out ρ'):ds.length=out.length:=by
 induction h with
 | nil=>rfl
 | cons _ _ _ ih=>rw [QC,QC,ih]
inductive Mf (X:Cx) (n:Nat) (sc scope:QM) (target i2 t2 elt:QR) (ao:Array UInt8) (ds out:List D) (A:QE) (C:Qt) (f:FD) (ah:Qs) (aE:GM) (wr:List Qt) (Da:Qt) (St:Nat→QL→Prop) (k:Nat) (s':Qs):Prop
 | mk (i:Nat) (g':GM) (oc:Qy→List Qt) (ρ':Rw) (cL:List Qr) (c9 rest:List D) (hk:i+k=ds.length+1) (hle:i≤ds.length) (Y:CI X A (cQ scope C f) ah aE wr Da St ao i g' oc ρ' cL c9 s') (hT:uU X n (ik sc scope) target i2 t2 elt ao (ds.drop i) ρ' rest) (g4:out=c9++rest)
theorem uH (hi:IT X n sc own target iter ρ b ds af ao) (lA:kF sc scope fW) (hf:eA af fW gM) (hT:uU X n (ik sc scope) target i2 t2 elt ao ds gM out) (hlen:out.length≤900000) (KN:∀ env x,foldedSetIterable i2 env x=pure x)
  (A:QE) (f:FD) (g:GM) (o:Qy→List Qt) (s:Qs) (RR:Qr→Qt→Result→Qs→Prop) (E:Qr→Qs→Prop) (R:cG A n) (aY:f.env.scope=sc) (F:FR X.B X.V A f g o ρ b s)
  (Ii:∀ Da C s',CompEnd X A f g o s af ao out Da C s'→RR (.ref Da) C (.ok .next) s') :
  QF (QJ X.prog X.w) A (eval iter f.env) (fun x ah=>QF (QJ X.prog X.w) A (pyIter x) (fun it bk=>QF (QJ X.prog X.w) A (newList []) (fun acc b4 =>
   QF (QJ X.prog X.w) A (newFunctionEnv scope f.env.globals (tf f.env scope.names []) [] f.env.qual none .none (some f.env)) (fun sP cq =>
    RS (QJ X.prog X.w) A (.compStart (iE elt target iter t2 i2 scope pos) 0 it acc { sP with scope:=relabel scope f.env }) (RR acc sP.locals) cq) E b4) E bk) E ah) E s:=by
 refine oA hi lA hf A f g o s RR E R aY F fun {I fp wr St Md aE aN ah C Da b4} W Z uP=>?_
 have uk:∀ a∈(cQ scope C f).fx,ah.heap.get? a=none:=fun a h=>by cases bq h;exact Z.Cn
 have e1:(cQ scope C f).env.scope=ik sc scope:=iI aY
 have Ay:Da∉wr:=Z.Jb Z.Dn
 have hp:∀ g',uT X A ah wr fp g':=fun g' a ha=>(Z.fp a ha).imp id .inr
 refine mT (Mf X n sc scope target i2 t2 elt ao ds out A C f ah aE wr Da St) (KN _) (fun k s' I' E'=>hide fun H kH=>?_) (ds.length+1) ⟨0,aE,oN,gM,[],[],out,Sk _,RC _,uP,hT,rfl⟩
 obtain ⟨i,g',oc,ρ',cL,c9,rest,hk,hle,Y,hT,g4⟩:=I'
 cases hd:ds[i]? with
 | none =>
  have hlen:ds.length≤i:=List.getElem?_eq_none_iff.mp hd
  rw [RV hlen] at hT
  have hr:rest=[]:=by cases hT;rfl
  have g4:out=c9:=by rw [g4,hr,Sj]
  have hi:i=ds.length:=Nat.le_antisymm hle hlen
  exact kH (W.done s' _ _ (hi▸Y.st) fun h' tk j0=>Ii Da C _ (g4▸Z.ended Y j0))
 | some d =>
  have fE:i<ds.length:=(g7 hd).1
  have n9:ds.drop i=d::ds.drop (i+1):=(List.drop_eq_getElem_cons fE).trans (congrArg (·::ds.drop (i+1)) (g7 hd).2)
  rw [n9] at hT
  refine kH (W.item i d g' s' _ _ hd Y.st Y.C.gm Y.F.bf (fun a ha=>(Y.wU a ha).g) fun v bl eR tk gm gn gs rv md iY=>W.go i v _ _ _ md fun gB ml iX=>hide fun jN jZ=>?_)
  have ug:∀ a∈wr,bl a=none:=fun a ha=>by
   obtain ⟨ob,q⟩:=W.live _ _ Y.st a ha
   cases e2:bl a with
   | none=>rfl
   | some b0 =>
    have:=gn a (Y.wU a ha).g (by rw [e2];exact fun z=>nomatch z)
    rw [q] at this;cases this
  have sZ:=CI.xQ (tk:=tk) W Ay Y gm gn (fun a ob q=>iX a ob (fun h=>by exact dP (ug a h) q) (gs a ob q)) (fun a ob h q=>iX a ob h (iY a ob h q)) ml
  cases hT with
  | @cons _ _ ng mM rJ _ Mh NL Fe jB Np hIn gC =>
   refine jZ (dU (f:=cQ scope C f) jB R.1 e1 (.inr rfl) (fun p h=>(nomatch h)) sZ.F rv fun gy cq fz fS=>?_)
   have je:=CI.u5 W uk (hp bl) sZ fz fS
   refine Np A (cQ scope C f) bl gy cq _ E' R e1 je.F fun I2 Bm nu AD IS j5 kP fR l9 kB W2 BX H2 Jl=>hide fun PZ Kq=>?_
   have jL:=CI.u5 W uk (hp bl) je l9 kB.toStep
   have Mx:∀ a ob,ah.heap.get? a=some ob→∃ b0,cq.heap.get? a=some b0:=fun a ob q=>by
    by_cases h:a∈wr
    ·exact W.live _ _ je.st a h
    ·exact je.C.lv a ob q h
   have n2:∀ a,(∃ ob,cq.heap.get? a=some ob)→a∉nu:=fun a ⟨ob,q⟩ h=>by exact dP (Jl a h) q
   have Kx:∀ a∈nu,ah.heap.get? a=none:=fun a h=>by
    cases q:ah.heap.get? a with
    | none=>rfl
    | some ob=>exact absurd h (n2 a (Mx a ob q))
   have Nr:∃ ob,cq.heap.get? Da=some ob:=by obtain ⟨nn,e⟩:=je.Dl;exact ⟨_,e⟩
   have sk:∀ a∈fp,a∉nu:=fun a ha=>n2 a <| by
    rcases hp bl a ha with h|h|⟨⟨ob,h⟩,_⟩
    ·exact W.live _ _ je.st a h
    ·cases e:bl a with
     | none=>exact absurd e h
     | some ob=>exact ⟨ob,je.F.bf a ob e⟩
    ·exact Mx a ob h
   have MU:uT X A ah (wr++nu) (fp++Bm) j5:=fun a ha=>(i9 ha).elim (fun h=>(hp j5 a h).imp (fun h=>Rf _ h) id) fun h=>by
    rcases H2.2 a h with h|h|⟨h,_⟩
    ·exact .inl (QZ _ h)
    ·exact .inr (.inl h)
    ·cases h
   have Im:Da∉fp++Bm:=fun h=>by
    rcases MU Da h with h|h|⟨⟨ob,h⟩,_⟩
    ·exact (i9 h).elim Ay (n2 Da Nr)
    ·exact h jL.DU.g
    ·exact dP Z.Dn h
   have YB:CI X A (cQ scope C f) ah aE (wr++nu) Da (fun j h=>St (i+1) h∧AD j h) ao 0 j5 kP NL cL c9 fR :=
    ⟨jL.F,⟨fun a ob q h=>jL.C.kp a ob q fun h'=>h (Rf _ h'),fun a ob q h=>jL.C.sl a ob q fun h'=>h (Rf _ h'),fun a ob q h=>jL.C.lv a ob q fun h'=>h (Rf _ h'),jL.C.gm,fun a q q'=>(jL.C.gn a q q').imp id fun h=>Rf _ h,jL.C.os⟩,
     jL.B1,⟨jL.st,BX⟩,jL.Dl,jL.DU,fun a h=>(i9 h).elim (jL.wU a) fun h=>(H2.1 a h).1,jL.rep⟩
   have HP:ng.length=mM.length:=hIn.len
   have inner:=fun (PT:Result→Qs→Prop) LA=>BC (t1:=target) (i1:=iter) (i2:=i2) (pos:=pos) (scope':=scope) (RR:=PT) W W2 uk MU (fun h=>(i9 h).elim Ay (n2 Da Nr)) Im Z.Dn sk Kx R e1 rfl hIn
    (by rw [HP];rw [g4,QA,QA] at hlen;exact (ji (ag (aq (ak aa (ak aj az)) (ae 900000)) (ag (aH a7 aj) (aq (ak aa aj) (ae 900000))))) hlen HP) YB LA
   refine Kq (mU (inner _ ?_) (W2.self 0 _ _ _ BX (inner _ ?_))) <;>
   ·intro g' xH yz s' _ Yz
    exact ⟨rfl,k-1,by exact yU hk fE,⟨i+1,g',xH,_,yz,_,rJ,by exact yS hk fE,fE,Yz,gC,by rw [g4,Q9]⟩⟩
theorem S1.Ac {y:Qy}{py yg:Rd}(hi:IT X n sc own target iter ρ b ds af ao) (lA:iP sc scope fW=true) (H3:eA ρ fW ki) (hf:eA af fW gM) (hT:uU X n (ik sc scope) target i2 t2 elt ao ds gM out) (hlen:out.length≤900000)
  (hy:stN sc y=true) (KH:∀ env:TU,env.scope=sc→swapsWith (iE elt target iter t2 i2 scope pos) (some (.Name y py)) yg.line env=pure true)
  (hs:autoParam (∀ env x,foldedSetIterable iter env x=pure x) qq) (KN:autoParam (∀ env x,foldedSetIterable i2 env x=pure x) qq):S1 X n sc (.Assign [.Name y py] (iE elt target iter t2 i2 scope pos) yg) ρ b (.next (aS af y (.val (.list out))) ao):=fun A f g o s Q E R aY I F q=>by
 have K:=iP.d lA
 rw [TS _ _ _ _ (KH _ aY)]
 refine Qq (Q2 (Qq ?_))
 show QF _ A (do let _ ← comprehension (iE elt target iter t2 i2 scope pos) scope f.env _ (newList []) false (eval iter f.env) (some (PySem.assign (.Name y py) f.env))) _ _ s
 refine Qq (Q7 (SK (use:=some (PySem.assign (.Name y py) f.env)) (Q:=fun _ s'=>Q .next s') rfl (hs _) (F.closure aY K H3) K.kind K.loc
  (uH hi K hf hT hlen KN A f g o s (fun acc C=>compPost (QJ X.prog X.w) A E (some (PySem.assign (.Name y py) f.env)) (fun _ s'=>Q .next s') acc C) E R aY F fun Da C s' P=>?_)) (fun _ s' hq=>Qv (Qv hq)) fun _ _ e=>e)
 obtain ⟨g',o',F',S',r,U,hC,m,hm⟩:=P
 show QF _ A (PySem.assign (.Name y py) f.env (.ref Da)) _ _ _
 refine PySem.wpAny_assign_Name (FR.lM (os:=[]) (e:=.val (.list out)) F' aY (I.EV hy) (fun a h=>(nomatch h)) r fun gF rl dG th xB _=>?_)
 obtain ⟨ob,es,ep,e,rest⟩:=hm
 obtain ⟨IL,LV⟩:=U.step xB e
 refine ⟨m,⟨ob,es,ep,LV,rest⟩,fun h' mC=>?_⟩
 have k:∀ a ob,a∉[C]→dG.heap.get? a=some ob→h'.get? a=some ob:=fun a ob h q=>mC.extBut a ob (fun z=>h (by rw [z];exact QO.mpr rfl)) q
 refine q gF rl _ (th.wr (wr:=[C]) (fun a h=>by cases bq h;exact IL) (fun _ _ q=>q) (fun _ q q'=>absurd q q') (fun a ob q=>k a ob (fun h=>by have e:=IL.g;rw [← bq h,q] at e;cases e) (th.bf a ob q)) k)
  ((S'.toStep.trans xB).wr (wr:=[C]) (fun a h=>by cases bq h;exact hC) (fun _ _ q=>q) (fun _ q q'=>absurd q q') k)
end
structure cF where
 hs:List Nat
 fs:List Nat
 bd:List Nat
 at_:Nat
noncomputable def bz (salt:Nat) (s:cF) (r:Row):cF :=
 ⟨s.hs.set (aT r.1 salt % 4) s.at_,if s.hs.getD (aT r.1 salt % 4) 0=0 then s.fs.set (aT r.1 salt % 4) s.at_ else s.fs,s.bd++fu (s.hs.getD (aT r.1 salt % 4) 0) (aT r.1 salt) r.1 r.2,s.at_+15+r.1.length⟩
noncomputable def jg:cF:=⟨replicate 4 0,replicate 4 0,[],16⟩
noncomputable def cY (salt:Nat) (rs:List Row):cF:=rs.foldl (bz salt) jg
noncomputable def ke (l:aU) (rs:List Row) (s:cF):List Nat:=[3,l.1]++aZ rs.length 2++aZ l.2 4++(s.hs.map fun h=>aZ h 2).flatten++s.bd
theorem gG (k t:Nat) (nm:List Nat) (num:Nat):(fu k t nm num).length=15+nm.length:=by
 unfold fu
 simp only [QA,ax,QC,QP];exact @Hb _
section
variable {X:Cx}{P:bj}{n:Nat}{sc:QM}{ρ af ay:Rw}{b ao b₂:Array UInt8}
structure oW (salt:Nat) (l:aU) (rs:List Row) (st:cF) (ρ:Rw):Prop where
 l:lk ρ ("leaf":Qy)=some (.val (ba l))
 s:lk ρ ("salt":Qy)=some (.val (.int (salt:Int)))
 r:lk ρ ("rows":Qy)=some (.val (.list (rs.map a8)))
 h:lk ρ ("heads":Qy)=some (.own (st.hs.map aI))
 f:lk ρ ("firsts":Qy)=some (.own (st.fs.map aI))
 b:lk ρ ("body":Qy)=some (.val (.list (st.bd.map aI)))
 a:lk ρ ("at":Qy)=some (.val (.int (st.at_:Int)))
theorem oW.put {salt:Nat}{l:aU}{rs:List Row}{s:cF}(I:oW salt l rs s ρ) (x:Qy) (e:En) (h:x∉(["leaf","salt","rows","heads","firsts","body","at"]:List Qy)):oW salt l rs s (aS ρ x e):=by
 simp only [R1,RB,or_false,not_or] at h
 obtain ⟨h1,h2,h3,h4,h5,h6,h7⟩:=h
 exact ⟨aR ((if_neg (Ne.symm h1)).trans I.l),aR ((if_neg (Ne.symm h2)).trans I.s),aR ((if_neg (Ne.symm h3)).trans I.r),aR ((if_neg (Ne.symm h4)).trans I.h),aR ((if_neg (Ne.symm h5)).trans I.f),aR ((if_neg (Ne.symm h6)).trans I.b),aR ((if_neg (Ne.symm h7)).trans I.a)⟩
theorem oW.body {salt:Nat}{l:aU}{rs:List Row}{s:cF}(I:oW salt l rs s ρ) (bd:List Nat):oW salt l rs { s with bd:=bd } (aS ρ "body" (.val (.list (bd.map aI)))) :=
 ⟨aR I.l,aR I.s,aR I.r,aR I.h,aR I.f,aR rfl,aR I.a⟩
theorem oW.firsts {salt:Nat}{l:aU}{rs:List Row}{s:cF}(I:oW salt l rs s ρ) (fs:List Nat):oW salt l rs { s with fs:=fs } (aS ρ "firsts" (.own (fs.map aI))) :=
 ⟨aR I.l,aR I.s,aR I.r,aR I.h,aR rfl,aR I.b,aR I.a⟩
theorem oW.heads {salt:Nat}{l:aU}{rs:List Row}{s:cF}(I:oW salt l rs s ρ) (hs:List Nat):oW salt l rs { s with hs:=hs } (aS ρ "heads" (.own (hs.map aI))) :=
 ⟨aR I.l,aR I.s,aR I.r,aR rfl,aR I.f,aR I.b,aR I.a⟩
theorem oW.at' {salt:Nat}{l:aU}{rs:List Row}{s:cF}(I:oW salt l rs s ρ) (a:Nat):oW salt l rs { s with at_:=a } (aS ρ "at" (.val (.int (a:Int)))) :=
 ⟨aR I.l,aR I.s,aR I.r,aR I.h,aR I.f,aR I.b,aR rfl⟩
structure Du (nm:List Nat) (num told:Nat) (ρ:Rw):Prop where
 n:lk ρ ("name":Qy)=some (.val (.str (bR nm)))
 k:lk ρ ("number":Qy)=some (.val (.int (num:Int)))
 t:lk ρ ("told":Qy)=some (.val (.int (told:Int)))
theorem Du.put {nm:List Nat}{num told:Nat}(I:Du nm num told ρ) (x:Qy) (e:En) (h:x∉(["name","number","told"]:List Qy)):Du nm num told (aS ρ x e):=by
 simp only [R1,RB,or_false,not_or] at h
 obtain ⟨h1,h2,h3⟩:=h
 exact ⟨aR ((if_neg (Ne.symm h1)).trans I.n),aR ((if_neg (Ne.symm h2)).trans I.k),aR ((if_neg (Ne.symm h3)).trans I.t)⟩
theorem getD_map {hs:List Nat}{i:Nat}(h:i<hs.length):(hs.map aI)[((i:Nat):Int).toNat]?=some (.int (hs.getD i 0:Int)):=by
 rw [QW,QU,QI h,Qw,QI h];rfl
theorem u7 (hs:List Nat) (i k:Nat):(hs.map aI).set ((i:Nat):Int).toNat (.int (k:Int))=(hs.set i k).map aI:=by
 rw [QW,List.map_set];rfl
theorem w8 (L:cP X P) {salt:Nat}{l:aU}{rs:List Row}{s:cF}{nm:List Nat}{num:Nat}(hh:s.hs.length=4) (hf:s.fs.length=4) (hb:s.bd.length≤10000) (hn:nm.length≤100) (I:oW salt l rs s ρ) :
  ∃ nr ρ',pA (aw (top 56)) false (dq (bD (top 56) 1)) (a8 (nm,num)) ρ nr∧SS X (n+1) (aw (top 56)) (aX (bD (top 56) 1)) nr b (.next ρ' b)∧oW salt l rs (bz salt s (nm,num)) ρ':=by
 obtain ⟨f1,hZ⟩:=L.fn 15 _ rfl
 obtain ⟨f2,hG⟩:=L.fn 29 _ rfl
 have em:((aT nm salt:Int)).fmod 4=((aT nm salt % 4:Nat):Int):=oi (aT nm salt) 4
 have P9:aT nm salt % 4<4:=UB _ av
 have N9:SE X (n+1) (aw (top 56)) (match (aX (bD (top 56) 1)).getD 0 (.Pass default) with|.Assign _ v _=>v|_=>.Name "" default) (aS (aS ρ "name" (.val (.str (bR nm)))) "number" (.val (.int (num:Int)))) b (.int (aT nm salt:Int)) (aS (aS ρ "name" (.val (.str (bR nm)))) "number" (.val (.int (num:Int)))) b :=
  SE.jW (bp (L.gf 11 _ rfl) hZ (au (ai (by rw [bx,bx];rfl)) (au (ai (aR (aR I.s))) aF)) (fh (name:=bR nm) L)) (jP nm salt)
 have cv:bz salt s (nm,num)=⟨s.hs.set (aT nm salt % 4) s.at_,if s.hs.getD (aT nm salt % 4) 0=0 then s.fs.set (aT nm salt % 4) s.at_ else s.fs,s.bd++fu (s.hs.getD (aT nm salt % 4) 0) (aT nm salt) nm num,s.at_+15+nm.length⟩:=rfl
 rw [cv]
 generalize aT nm salt=told at *
 generalize hj:told % 4=j at *
 have s0:S1 X (n+1) (aw (top 56)) ((aX (bD (top 56) 1)).getD 0 (.Pass default)) (aS (aS ρ "name" (.val (.str (bR nm)))) "number" (.val (.int (num:Int)))) b (.next (aS (aS (aS ρ "name" (.val (.str (bR nm)))) "number" (.val (.int (num:Int)))) "told" (.val (.int (told:Int)))) b):=cj N9
 have I2:=((I.put "name" (.val (.str (bR nm))) av).put "number" (.val (.int (num:Int))) av).put "told" (.val (.int (told:Int))) av
 have K2:Du nm num told (aS (aS (aS ρ "name" (.val (.str (bR nm)))) "number" (.val (.int (num:Int)))) "told" (.val (.int (told:Int)))):=⟨by rw [bx,bx,bx];rfl,by rw [bx,bx];rfl,by rw [bx];rfl⟩
 have hT:pA (aw (top 56)) false (dq (bD (top 56) 1)) (a8 (nm,num)) ρ (aS (aS ρ "name" (.val (.str (bR nm)))) "number" (.val (.int (num:Int)))):=.tup (xs:=["name","number"]) (.cons (.cons .nil)) rfl av (by intro h;cases h)
 generalize aS (aS ρ "name" (.val (.str (bR nm)))) "number" (.val (.int (num:Int)))=ek at *
 generalize aS ek "told" (.val (.int (told:Int)))=ej at *
 have vG:s.bd.length+(2+4+1)≤100000:=by exact (dW (ag (aq aa (ae 10000)) (aq (ak aa (ak (ak (ae 2) (ae 4)) (ae 1))) (ae 100000)))) hb
 have s1:S1 X (n+1) (aw (top 56)) ((aX (bD (top 56) 1)).getD 1 (.Pass default)) ej b (.next (aS ej "body" (.val (.list ((s.bd++(aZ (s.hs.getD j 0) 2++aZ told 4++[nm.length])).map aI)))) b):=by
  refine cj (SE.wu (SE.iB (SE.iB (SE.iB (ai I2.b) (bp (L.gf 21 _ rfl) hG (au (SE.Dc (d:=.int (s.hs.getD j 0:Int)) I2.h (SE.jW (cK (ai K2.t) aC av) em) I2.h (vu hj em) (C5 hj em) (getD_map (C4 hh hj em))) (au aC aF)) (bE (m:=2) L av)) ?_)
   (bp (L.gf 21 _ rfl) hG (au (ai K2.t) (au aC aF)) (bE (m:=4) L av)) ?_) (dk (au (SE.A8 (ai K2.n) (Qx hn av)) aF)) ?_) ?_)
  ·simp only [Qu,ax];exact (dW (ag (aq aa (ae 10000)) (aq (ak aa (ae 2)) (ae 1000000)))) hb
  ·simp only [QA,Qu,ax];exact (dW (ag (aq aa (ae 10000)) (aq (ak (ak aa (ae 2)) (ae 4)) (ae 1000000)))) hb
  ·simp only [QA,Qu,ax,QC,QP];exact (dW (ag (aq aa (ae 10000)) (aq (ak (ak (ak aa (ae 2)) (ae 4)) (ak (ae 0) (ae 1))) (ae 1000000)))) hb
  ·simp [aI]
 have I3:=I2.body (s.bd++(aZ (s.hs.getD j 0) 2++aZ told 4++[nm.length]))
 have K3:=K2.put "body" (.val (.list ((s.bd++(aZ (s.hs.getD j 0) 2++aZ told 4++[nm.length])).map aI))) av
 generalize aS ej "body" (.val (.list ((s.bd++(aZ (s.hs.getD j 0) 2++aZ told 4++[nm.length])).map aI)))=gr at *
 have s2:S1 X (n+1) (aw (top 56)) ((aX (bD (top 56) 1)).getD 2 (.Pass default)) gr b (.next (aS gr "body" (.val (.list ((s.bd++fu (s.hs.getD j 0) told nm num).map aI)))) b):=by
  refine cj (SE.wu (SE.iB (SE.iB (ai I3.b) (i7 (own:=false) (fW:=[]) (IT.str (ai K3.n)) av .nil .nil (nN rfl av av av) ?_) ?_) (bp (L.gf 21 _ rfl) hG (au (ai K3.k) (au aC aF)) (bE (m:=8) L av)) ?_) ?_)
  ·rw [Qu,yn];exact Qx hn av
  ·simp only [QA,Qu,ax,QC,QP];exact (cS (ag (aq aa (ae 10000)) (ag (aq aj (ae 100)) (aq (ak (ak aa (ak (ak (ae 2) (ae 4)) (ak (ae 0) (ae 1)))) aj) (ae 1000000))))) hb hn
  ·simp only [QA,Qu,ax,QC,QP];exact (cS (ag (aq aa (ae 10000)) (ag (aq aj (ae 100)) (aq (ak (ak (ak aa (ak (ak (ae 2) (ae 4)) (ak (ae 0) (ae 1)))) aj) (ae 8)) (ae 1000000))))) hb hn
  ·simp [fu,aI]
 have I4:=I3.body (s.bd++fu (s.hs.getD j 0) told nm num)
 have K4:=K3.put "body" (.val (.list ((s.bd++fu (s.hs.getD j 0) told nm num).map aI))) av
 generalize aS gr "body" (.val (.list ((s.bd++fu (s.hs.getD j 0) told nm num).map aI)))=rn at *
 dsimp only at I4
 have jj:∀ {ρ:Rw},Du nm num told ρ→SE X (n+1) (aw (top 56)) (match (aX (bD (top 56) 1)).getD 4 (.Pass default) with|.Assign (.Subscript _ i _::_) _ _=>i|_=>.Name "" default) ρ b (.int ((j:Nat):Int)) ρ b:=fun K=>SE.jW (cK (ai K.t) aC av) em
 have N4:∀ {ρ:Rw},Du nm num told ρ→SE X (n+1) (aw (top 56)) (match (aX (bD (top 56) 1)).getD 3 (.Pass default) with|.If (.Compare (.Subscript _ i _) _ _ _) _ _ _=>i|_=>.Name "" default) ρ b (.int ((j:Nat):Int)) ρ b:=fun K=>SE.jW (cK (ai K.t) aC av) em
 have N5:∀ {ρ:Rw},Du nm num told ρ→SE X (n+1) (aw (top 56)) (match (aX (bD (top 56) 1)).getD 3 (.Pass default) with|.If _ (.Assign (.Subscript _ i _::_) _ _::_) _ _=>i|_=>.Name "" default) ρ b (.int ((j:Nat):Int)) ρ b:=fun K=>SE.jW (cK (ai K.t) aC av) em
 have AM:ST X (n+1) (aw (top 56)) (match (aX (bD (top 56) 1)).getD 3 (.Pass default) with|.If t _ _ _=>t|_=>.Name "" default) rn b (((s.hs.getD j 0:Nat):Int)==0) rn b :=
  cg (SE.Dc (d:=.int (s.hs.getD j 0:Int)) I4.h (N4 K4) I4.h (vu hj em) (C5 hj em) (getD_map (show j<s.hs.length by exact C4 hh hj em))) aC aQ.vU
 have s3:∃ xF,S1 X (n+1) (aw (top 56)) ((aX (bD (top 56) 1)).getD 3 (.Pass default)) rn b (.next xF b)∧Du nm num told xF∧oW salt l rs ⟨s.hs,if s.hs.getD j 0=0 then s.fs.set j s.at_ else s.fs,s.bd++fu (s.hs.getD j 0) told nm num,s.at_⟩ xF:=by
  by_cases h0:s.hs.getD j 0=0
  ·have e:(((s.hs.getD j 0:Nat):Int)==0)=true:=by rw [h0];rfl
   rw [e] at AM
   refine ⟨aS rn "firsts" (.own ((s.fs.set j s.at_).map aI)),S1.qK AM (aG ?_ bX),K4.put _ _ av,?_⟩
   ·rw [← u7]
    exact S1.F3 I4.f (ai I4.a) (N5 K4) (vu hj em) (by rw [Qu];show (j:Int)<(s.fs.length:Int);exact C3 hf hj em) (by rw [Qu];show s.fs.length≤_;exact Qx (RP hf) av)
   ·rw [if_pos h0];exact I4.firsts _
  ·have e:(((s.hs.getD j 0:Nat):Int)==0)=false:=beq_eq_false_iff_ne.mpr (C2 h0)
   rw [e] at AM
   refine ⟨rn,S1.kI AM bX,K4,?_⟩
   rw [if_neg h0];exact I4
 obtain ⟨xF,s3,K5,I5⟩:=s3
 have s4:S1 X (n+1) (aw (top 56)) ((aX (bD (top 56) 1)).getD 4 (.Pass default)) xF b (.next (aS xF "heads" (.own ((s.hs.set j s.at_).map aI))) b):=by
  rw [← u7]
  exact S1.F3 I5.h (ai I5.a) (jj K5) (vu hj em) (by rw [Qu];show (j:Int)<(s.hs.length:Int);exact C3 hh hj em) (by rw [Qu];show s.hs.length≤_;exact Qx (RP hh) av)
 have I6:=I5.heads (s.hs.set j s.at_)
 have K6:=K5.put "heads" (.own ((s.hs.set j s.at_).map aI)) av
 have ea:((s.at_:Int)+15+(nm.length:Int))=((s.at_+15+nm.length:Nat):Int):=by exact @C1 _ _
 exact ⟨ek,_,hT,aG s0 (aG s1 (aG s2 (aG s3 (aG s4 (aG (cj (SE.jW (cZ (cZ (ai I6.a) aC) (SE.A8 (ai K6.n) (Qx hn av))) ea)) bX))))),I6.at' _⟩
end
theorem nV {salt:Nat}{s:cF}{r:Row}(h:s.hs.length=4):(bz salt s r).hs.length=4:=by
 show (s.hs.set _ _).length=4
 rw [List.length_set];exact h
theorem nW {salt:Nat}{s:cF}{r:Row}(h:s.fs.length=4):(bz salt s r).fs.length=4:=by
 show (ite _ (s.fs.set _ _) s.fs).length=4
 split
 ·rw [List.length_set];exact h
 ·exact h
theorem rV {salt:Nat}{s:cF}{r:Row}:(bz salt s r).bd.length=s.bd.length+15+r.1.length:=by
 show (s.bd++fu _ _ _ _).length=_
 rw [QA,gG];exact @Hh _ _
section
variable {X:Cx}{P:bj}{n:Nat}{sc:QM}{ρ af ay:Rw}{b ao b₂:Array UInt8}
theorem t8 (L:cP X P) {salt:Nat}{l:aU}{all:List Row}:∀ (rs:List Row) (s:cF) (ρ:Rw),s.hs.length=4→s.fs.length=4→s.bd.length+rs.length*115≤10000→(∀ r∈rs,r.1.length≤100)→oW salt l all s ρ →
  ∃ ρ',ey X (n+1) (aw (top 56)) (dq (bD (top 56) 1)) (aX (bD (top 56) 1)) (rs.map a8) ρ b (.next ρ' b)∧oW salt l all (rs.foldl (bz salt) s) ρ'∧(rs.foldl (bz salt) s).hs.length=4∧(rs.foldl (bz salt) s).fs.length=4∧(rs.foldl (bz salt) s).bd.length≤10000:=fun rs=>by
 induction rs with
 | nil =>
  exact fun s ρ h1 h2 h3 _ I=>⟨ρ,.nil,I,h1,h2,by simpa using h3⟩
 | cons lq rs bA =>
  obtain ⟨nm,num⟩:=lq
  intro s ρ h1 h2 h3 h4 I
  rw [QC] at h3
  have hn:=h4 _ QB
  obtain ⟨nr,af,hT,hS,I1⟩:=w8 (n:=n) (b:=b) (num:=num) L h1 h2 ((cS (ag (aq (ak aa (cD (ak aj (ae 1)) 115)) (ae 10000)) (aq aa (ae 10000)))) h3) hn I
  obtain ⟨ρ',hR,I2⟩:=bA _ _ (nV h1) (nW h2) (by rw [rV];show s.bd.length+15+nm.length+_≤_;have:nm.length≤100:=hn;exact (dC (ag (aq (ak aa (cD (ak az (ae 1)) 115)) (ae 10000)) (ag (aq aj (ae 100)) (aq (ak (ak (ak aa (ae 15)) aj) (cD az 115)) (ae 10000))))) h3 this) (fun r hr=>h4 r (QD _ hr)) I1
  exact ⟨ρ',.next hT hS hR,I2⟩
theorem zX {t:QR}{p p':Rd}{sc:QM}(ht:t=.Name "octet" p) (cv:stN sc "octet"=true) (sj:sc.names.lookup ("octet":Qy)=some .local):∀ (ds:List Nat) (ρ:Rw) ,lk ρ ("place":Qy)=lk ρ ("place":Qy)→∃ ρ',BR X n sc t (.Name "octet" p') b (ds.map aI) ρ (ds.map aI) ρ'
 | [],ρ,_=>⟨ρ,.nil⟩
 | d::ds,ρ,_=>by
  subst ht
  obtain ⟨ρ',h⟩:=zX rfl cv sj ds (aS ρ "octet" (.val (aI d))) rfl
  exact ⟨ρ',.cons (.name cv fun _=>sj) (ai (bx ..)) h⟩
theorem Bz (L:cP X P) {scope:QM}{p1 p2 p3:Rd}{i2:QR}(h1:stN scope "place"=true) (Pr:scope.names.lookup ("place":Qy)=some .local) (h2:stN scope "octet"=true) (Pq:scope.names.lookup ("octet":Qy)=some .local)
  (hi:∀ (k:Nat) ρ,lk ρ ("place":Qy)=some (.val (aI k))→SE X n scope i2 ρ b (.list ((aZ k 2).map aI)) ρ b):∀ (hs:List Nat) (ρ:Rw),uU X n scope (.Name "place" p1) i2 (.Name "octet" p2) (.Name "octet" p3) b (hs.map aI) ρ (((hs.map fun h=>aZ h 2).flatten).map aI):=fun hs=>by
 induction hs with
 | nil =>
  exact fun ρ=>.nil
 | cons k hs bA =>
  intro ρ
  obtain ⟨ρ',HU⟩:=zX (X:=X) (n:=n) (b:=b) (p:=p2) (p':=p3) rfl h2 Pq (aZ k 2) (aS ρ "place" (.val (aI k))) rfl
  rw [QT,QT,RJ,Rc]
  exact .cons (.name h1 fun _=>Pr) (IT.list (hi k _ (bx ..))) HU (bA ρ')
set_option maxHeartbeats 1600000 in
theorem ua (L:cP X P) {salt:Nat}{l:aU}{rs:List Row}(hz:rs.length≤60) (hn:∀ r∈rs,r.1.length≤100) :
  cb X (n+2) 459 [ba l,.int (salt:Int),.list (rs.map a8)] b (.ok (.tup [.list ((ke l rs (cY salt rs)).map aI),.list ((cY salt rs).fs.map aI)]) b):=by
 obtain ⟨fd,hF⟩:=L.fn 34 _ rfl
 obtain ⟨f2,hG⟩:=L.fn 29 _ rfl
 have I0:oW salt l rs jg (stores ((["leaf","salt","rows"]:List Qy).zip (([ba l,.int (salt:Int),.list (rs.map a8)]:List D).map En.val)) ((["heads","firsts","body","at"]:List Qy).zip ([.own (replicate (4:Int).toNat (.int 0)),.own (replicate (4:Int).toNat (.int 0)),.val (.list []),.val (.int 16)]:List En))) :=
  ⟨rfl,rfl,rfl,rfl,rfl,rfl,rfl⟩
 have s0:S1 X (n+1) (aw (top 56)) ((bodyOf (top 56)).getD 0 (.Pass default)) ((["leaf","salt","rows"]:List Qy).zip (([ba l,.int (salt:Int),.list (rs.map a8)]:List D).map En.val)) b (.next (stores ((["leaf","salt","rows"]:List Qy).zip (([ba l,.int (salt:Int),.list (rs.map a8)]:List D).map En.val)) ((["heads","firsts","body","at"]:List Qy).zip ([.own (replicate (4:Int).toNat (.int 0)),.own (replicate (4:Int).toNat (.int 0)),.val (.list []),.val (.int 16)]:List En))) b) :=
  S1.AL (i4.cons (SF.rep (au aC aF) aC av av) (i4.cons (SF.rep (au aC aF) aC av av) (i4.cons (SF.ip (dk aF)) (i4.cons (SF.ip aC) i4.nil)))) (.cons (.cons (.cons (.cons .nil)))) rfl av (by rintro ⟨⟩ h;subst h;rfl)
 obtain ⟨ek,hT,I1,h1,h2,h3⟩:=t8 (n:=n) (b:=b) L rs jg _ rfl rfl (by show 0+_≤_;exact (dW (ag (aq aa (ae 60)) (aq (ak (ae 0) (cD aa 115)) (ae 10000)))) hz) hn I0
 generalize stores ((["leaf","salt","rows"]:List Qy).zip (([ba l,.int (salt:Int),.list (rs.map a8)]:List D).map En.val)) ((["heads","firsts","body","at"]:List Qy).zip ([.own (replicate (4:Int).toNat (.int 0)),.own (replicate (4:Int).toNat (.int 0)),.val (.list []),.val (.int 16)]:List En))=ki at *
 change oW salt l rs (cY salt rs) ek at I1
 change (cY salt rs).hs.length=4 at h1
 change (cY salt rs).bd.length≤10000 at h3
 generalize cY salt rs=st at *
 have lB:((st.hs.map fun h=>aZ h 2).flatten).length≤8:=by
  have:∀ hs:List Nat,((hs.map fun h=>aZ h 2).flatten).length=2*hs.length:=fun hs=>by
   induction hs with
   | nil=>rfl
   | cons h r ih=>rw [QT,RJ,QA,ih,ax,QC];exact @Gg _
  rw [this,h1];exact @Hg
 have s2:S1 X (n+1) (aw (top 56)) ((bodyOf (top 56)).getD 2 (.Pass default)) ek b (.next (aS ek "links" (.val (.list (((st.hs.map fun h=>aZ h 2).flatten).map aI)))) b) :=
  S1.Ac (own:=true) (fW:=[]) (IT.own I1.h) av .nil .nil (Bz L av av av av (fun k ρ hk=>bp (L.gf 21 _ rfl) hG (au (ai hk) (au aC aF)) (bE (m:=2) L av)) st.hs []) (by rw [Qu];exact Qx lB av) av (by rintro ⟨⟩ h;subst h;rfl)
 have I2:=I1.put "links" (.val (.list (((st.hs.map fun h=>aZ h 2).flatten).map aI))) av
 have k2:lk (aS ek "links" (.val (.list (((st.hs.map fun h=>aZ h 2).flatten).map aI)))) ("links":Qy)=some (.val (.list (((st.hs.map fun h=>aZ h 2).flatten).map aI))):=aR rfl
 generalize aS ek "links" (.val (.list (((st.hs.map fun h=>aZ h 2).flatten).map aI)))=ej at *
 have el:(((rs.map a8).length:Nat):Int)=(rs.length:Int):=by rw [Qu]
 have s1:S1 X (n+1) (aw (top 56)) ((bodyOf (top 56)).getD 1 (.Pass default)) ki b (.next ek b):=S1.For (IT.wj (ai I0.r) (fun d hd=>by
   obtain ⟨e,_,rfl⟩:=dj hd
   exact ⟨_,rfl⟩)) hT
 have il:lk ej ("leaf":Qy)=some (.val (.tup [.int (l.1:Int),.int (l.2:Int)])):=I2.l
 have e1:SE X (n+1) (aw (top 56)) (match (bodyOf (top 56)).getD 3 (.Pass default) with|.Return (some (.Tuple (a::_) _ _)) _=>a|_=>.Name "" default) ej b (.list ((ke l rs st).map aI)) ej b:=by
  refine SE.wu (SE.iB (SE.iB (SE.iB (SE.iB (dk (au aC (au (SE.n5 (ds:=[.int (l.1:Int),.int (l.2:Int)]) (i:=0) (d:=.int (l.1:Int)) (ai il) aC av av rfl) aF)))
    (bp (L.gf 21 _ rfl) hG (au (SE.jW (SE.nY (ai I2.r) (by rw [Qu];exact (cS (ag (aq aa (ae 60)) (ag (cu (aL aj) (aL aa)) (aq aa (ae 1000000))))) hz el)) el) (au aC aF)) (bE (m:=2) L av)) ?_)
    (bp (L.gf 21 _ rfl) hG (au (SE.n5 (ds:=[.int (l.1:Int),.int (l.2:Int)]) (i:=1) (d:=.int (l.2:Int)) (ai il) aC av av rfl) (au aC aF)) (bE (m:=4) L av)) ?_)
    (ai k2) ?_) (ai I2.b) ?_) ?_
  ·simp only [Qu,QC,QP,ax];decide
  ·simp only [QA,Qu,QC,QP,ax];decide
  ·simp only [QA,Qu,QC,QP,ax];exact (dW (ag (aq aa (ae 8)) (aq (ak (ak (ak (ak (ak (ae 0) (ae 1)) (ae 1)) (ae 2)) (ae 4)) aa) (ae 1000000)))) lB
  ·simp only [QA,Qu,QC,QP,ax];exact (cS (ag (aq aj (ae 10000)) (ag (aq aa (ae 8)) (aq (ak (ak (ak (ak (ak (ak (ae 0) (ae 1)) (ae 1)) (ae 2)) (ae 4)) aa) aj) (ae 1000000))))) h3 lB
  ·simp [ke,aI]
 have s3:S1 X (n+1) (aw (top 56)) ((bodyOf (top 56)).getD 3 (.Pass default)) ej b (.ret (.tup [.list ((ke l rs st).map aI),.list (st.fs.map aI)]) (aS ej "firsts" (.val (.list (st.fs.map aI)))) b) :=
  bN (SE.tup (au e1 (au (SE.my I2.f) aF)))
 have body:SS X (n+1) (aw (top 56)) (bodyOf (top 56)) ((["leaf","salt","rows"]:List Qy).zip (([ba l,.int (salt:Int),.list (rs.map a8)]:List D).map En.val)) b (.ret (.tup [.list ((ke l rs st).map aI),.list (st.fs.map aI)]) (aS ej "firsts" (.val (.list (st.fs.map aI)))) b) :=
  aG s0 (aG s1 (aG s2 (bF s3)))
 exact bV hF rfl av body
end
theorem sS (l:List Nat):byteArr ((l.map fun (k:Nat)=>(k:Int)))=(bY l).toArray:=by
 unfold byteArr bY
 rw [Rk]
 rfl
noncomputable def g8 (bits:Nat) (ls:List aU) (ord:List Nat) (i:Nat):Nat:=ord.getD (a6 ls (i*2 ^ (32-bits))) 0
noncomputable def cE (bits:Nat) (ls:List aU) (ord:List Nat) (m:Nat):List Nat:=((range m).map fun i=>aZ (g8 bits ls ord i) 4).flatten
theorem jv (bits:Nat) (ls:List aU) (ord:List Nat) (m:Nat):cE bits ls ord (m+1)=cE bits ls ord m++aZ (g8 bits ls ord m) 4:=by
 unfold cE
 rw [List.range_succ,Rc,List.flatten_append,List.map_singleton,List.flatten_singleton]
theorem fk (bits:Nat) (ls:List aU) (ord:List Nat):∀ m,(cE bits ls ord m).length=4*m:=by
 intro m
 induction m with
 | zero =>
  exact rfl
 | succ m bA =>
  exact by rw [jv,QA,bA,ax];exact @J6 _
section
variable {X:Cx}{P:bj}{n:Nat}{sc:QM}{ρ af ay:Rw}{b ao b₂:Array UInt8}
theorem SE.gI {np pos:Rd}{e:QR}{l:List Nat}(he:SE X n sc e ρ b (.list (l.map aI)) af ao) (hr:∀ k∈l,k<256) (hz:l.length≤1000000) (hk:autoParam (sc.names.lookup ("bytes":Qy)=some .globalImplicit) bG) (cv:autoParam (∀ env,QS [e] env=[(false,eval e env)]) cw) :
  SE X n sc (.Call (.Name "bytes" np) [e] [] pos) ρ b (.bytes (bY l).toArray) af ao:=by
 rw [← sS]
 refine SE.EW (SE.wu he (by rw [Rk];rfl)) (fun k hk=>?_) (by rw [Qu];exact hz) hk cv
 obtain ⟨c,hc,rfl⟩:=dj hk
 have:=hr c hc
 exact (dW (ag (aD aa (ae 256)) (dB (bM (aJ 0) (aL aa)) (cU (aL aa) (aJ 256))))) this
structure BP (salt bits:Nat) (ls:List aU) (ord:List Nat) (tb:Nat) (rs:List Row) (ρ:Rw):Prop where
 v:lk ρ ("view":Qy)=some (.val (.ext 0))
 s:lk ρ ("salt":Qy)=some (.val (.int (salt:Int)))
 b:lk ρ ("bits":Qy)=some (.val (.int (bits:Int)))
 l:lk ρ ("leaves":Qy)=some (.val (.list (ls.map ba)))
 o:lk ρ ("order":Qy)=some (.val (.list (ord.map aI)))
 t:lk ρ ("table":Qy)=some (.val (.int (tb:Int)))
 r:lk ρ ("rows":Qy)=some (.val (.list (rs.map a8)))
theorem BP.put {salt bits tb:Nat}{ls:List aU}{ord:List Nat}{rs:List Row}(I:BP salt bits ls ord tb rs ρ) (x:Qy) (e:En) (h:x∉(["view","salt","bits","leaves","order","table","rows"]:List Qy)):BP salt bits ls ord tb rs (aS ρ x e):=by
 simp only [R1,RB,or_false,not_or] at h
 obtain ⟨h1,h2,h3,h4,h5,h6,h7⟩:=h
 exact ⟨aR ((if_neg (Ne.symm h1)).trans I.v),aR ((if_neg (Ne.symm h2)).trans I.s),aR ((if_neg (Ne.symm h3)).trans I.b),aR ((if_neg (Ne.symm h4)).trans I.l),aR ((if_neg (Ne.symm h5)).trans I.o),aR ((if_neg (Ne.symm h6)).trans I.t),aR ((if_neg (Ne.symm h7)).trans I.r)⟩
theorem xo (L:cP X P) {salt bits tb:Nat}{ls:List aU}{ord:List Nat}{rs:List Row}(g5:LsOk ls) (hb:bits≤3) (ho:ord.length=ls.length):∀ (k m:Nat) (ρ:Rw),m+k≤2 ^ bits→BP salt bits ls ord tb rs ρ→lk ρ ("named":Qy)=some (.val (.list ((cE bits ls ord m).map aI))) →
  ∃ ρ',ey X (n+1) (aw (top 57)) (dq (bD (top 57) 1)) (aX (bD (top 57) 1)) ((range' m k).map aI) ρ b (.next ρ' b)∧BP salt bits ls ord tb rs ρ'∧lk ρ' ("named":Qy)=some (.val (.list ((cE bits ls ord (m+k)).map aI))):=fun k=>by
 induction k with
 | zero =>
  exact fun m ρ _ I hN=>⟨ρ,.nil,I,hN⟩
 | succ k bA =>
  intro m ρ hk I hN
  obtain ⟨f1,hP⟩:=L.fn 33 _ rfl
  obtain ⟨f2,hG⟩:=L.fn 29 _ rfl
  have kZ:2 ^ bits≤8:=by
   have:(2:Nat) ^ bits≤2 ^ 3:=Q3 av hb
   exact this
  have MT:m*2 ^ (32-bits)<4294967296:=by
   have h1:m*2 ^ (32-bits)<2 ^ bits*2 ^ (32-bits):=Nat.mul_lt_mul_of_pos_right (mN hk) (Ti av)
   rw [← Vk,show bits+(32-bits)=32 by exact Gx hb] at h1
   exact h1
  have M0:a6 ls (m*2 ^ (32-bits))<ls.length:=by
   have:=g5.all _ MT
   unfold a6
   exact List.findIdx_lt_length.mpr (Sg.mp this)
  have I1:=I.put "index" (.val (aI m)) av
  have xj:lk (aS ρ "index" (.val (aI m))) ("named":Qy)=some (.val (.list ((cE bits ls ord m).map aI))):=aR hN
  have As:lk (aS ρ "index" (.val (aI m))) ("index":Qy)=some (.val (.int (m:Int))):=aR rfl
  have O4:pA (aw (top 57)) false (dq (bD (top 57) 1)) (aI m) ρ (aS ρ "index" (.val (aI m))):=.name av (by intro h;cases h)
  generalize aS ρ "index" (.val (aI m))=ek at *
  have e1:((32:Int)-(bits:Int)).toNat=32-bits:=by exact (Lq 1 0 [gk (fy (aJ 32) (aL aa)),b9 (ae 32) aa] (ag (aq aa (ae 3)) (aH aj az))) hb
  have e2:((2:Int) ^ (32-bits))=((2 ^ (32-bits):Nat):Int):=by simp
  have fE:2 ^ (32-bits)<2 ^ 64:=by
   have:2 ^ (32-bits)≤2 ^ 32:=Q3 av ((Lq 1 0 [b9 (ae 32) aa] (ag (aq aa (ae 3)) (aq aj (ae 32)))) hb)
   exact Gq this
  have hmul:IntMulOk (m:Int) ((2:Int) ^ ((32:Int)-(bits:Int)).toNat):=by
   rw [e1,e2]
   generalize 2 ^ (32-bits)=w at fE
   exact mulR ((dW (ag (aD aa (ae (2 ^ 64))) (cU (xN (aJ (2 ^ 64))) (aL aa)))) fE) ((dW (ag (aD aa (ae (2 ^ 64))) (cU (aL aa) (aJ (2 ^ 64))))) fE)
  have ev:((m:Int)*(2:Int) ^ ((32:Int)-(bits:Int)).toNat)=((m*2 ^ (32-bits):Nat):Int):=by
   rw [e1,e2];simp
  have cv:S1 X (n+1) (aw (top 57)) ((aX (bD (top 57) 1)).getD 0 (.Pass default)) ek b (.next (aS ek "named" (.val (.list ((cE bits ls ord (m+1)).map aI)))) b):=by
   refine cj (SE.wu (SE.iB (ai xj) (bp (L.gf 21 _ rfl) hG (au (SE.gA (d:=.int (g8 bits ls ord m:Int)) (ai I1.o) (bp (L.gf 25 _ rfl) hP (au (ai I1.l) (au (SE.jW (dH (ai As) (SE.pow aC (SE.sub aC (ai I1.b)) ((dW (ag (aq aa (ae 3)) (bM (aJ 0) (fy (aJ 32) (aL aa))))) hb) ((dW (ag (aq aa (ae 3)) (bM (fy (aJ 32) (aL aa)) (aJ 1000000)))) hb) av) hmul) ev) aF)) (fH (told:=m*2 ^ (32-bits)) L (by have:=g5.xI;exact (cS (ag (aH aj aa) (ag (aq aa (ae 100)) (aq aa (ae 1000))))) ho this) g5.dep (g5.all _ MT))) (@pb _) (by have:=g5.xI;exact (dC (ag (aH aj az) (ag (aD aa az) (ag (aq az (ae 100)) (cU (aL aa) (aJ (2 ^ 63))))))) ho M0 this) (getD_map (pa ho M0))) (au aC aF)) (bE (m:=4) L av)) ?_) ?_)
   ·rw [Qu,Qu,fk,ax];exact (dC (ag (aq (ak aa (ak aj (ae 1))) az) (ag (aq az (ae 8)) (aq (ak (dO 4 aa) (ae 4)) (ae 1000000))))) hk kZ
   ·rw [jv,Rc]
  obtain ⟨ρ',hT,I',Nm⟩:=bA (m+1) (aS ek "named" (.val (.list ((cE bits ls ord (m+1)).map aI)))) (A2 hk) (I1.put _ _ av) (aR rfl)
  rw [List.range'_succ,QT]
  exact ⟨ρ',.next O4 (aG cv bX) hT,I',by rw [show m+(k+1)=m+1+k by exact @DT _ _];exact Nm⟩
end
noncomputable def bg (ls:List aU) (salt:Nat) (rs:List Row) (k:Nat):List Row:=rs.filter fun r=>decide (a6 ls (aT r.1 salt)=k)
theorem iH (ls:List aU) (salt:Nat) (rs:List Row) (k:Nat):(bg ls salt rs k).length≤rs.length:=List.length_filter_le ..
noncomputable def bw (ls:List aU) (salt:Nat) (rs:List Row) (l:aU) (k:Nat):List Nat:=ke l (bg ls salt rs k) (cY salt (bg ls salt rs k))
noncomputable def dK (ls:List aU) (salt:Nat) (rs:List Row) (ord:List Nat):List aU→Nat→Array UInt8→Array UInt8
 | [],_,b=>b
 | l::r,k,b=>dK ls salt rs ord r (k+1) (wr b (ord.getD k 0*256) (bY (bw ls salt rs l k)))
noncomputable def gS (ls:List aU) (salt:Nat) (rs:List Row) (k:Nat):List Nat:=(cY salt (bg ls salt rs k)).fs
noncomputable def cz (ls:List aU) (salt:Nat) (rs:List Row) (k:Nat):D:=.list ((gS ls salt rs k).map aI)
theorem Bn (salt:Nat):∀ (rs:List Row) (s:cF),(∀ r∈rs,r.1.length≤6)→(rs.foldl (bz salt) s).bd.length≤s.bd.length+21*rs.length:=fun rs=>by
 induction rs with
 | nil =>
  exact fun s _=>QV _
 | cons r rs bA =>
  intro s h
  have h1:=h r QB
  have h2:=bA (bz salt s r) fun q hq=>h q (QD _ hq)
  rw [rV] at h2
  rw [RY,QC]
  exact (ji (ag (aq a7 (ae 6)) (ag (aq aa (ak (ak (ak aj (ae 15)) a7) (dO 21 az))) (aq aa (ak aj (dO 21 (ak az (ae 1)))))))) h1 h2
theorem k9 (salt:Nat):∀ (rs:List Row) (s:cF),s.hs.length=4→s.fs.length=4→(rs.foldl (bz salt) s).hs.length=4∧(rs.foldl (bz salt) s).fs.length=4:=fun rs=>by
 induction rs with
 | nil =>
  exact fun s h h'=>⟨h,h'⟩
 | cons r rs bA =>
  exact fun s h h'=>bA _ (nV h) (nW h')
theorem Bv {k t:Nat}{nm:List Nat}{num:Nat}(hn:nm.length≤100) (h:∀ c∈nm,c<256):∀ c∈fu k t nm num,c<256:=fun c hc=>by
 unfold fu at hc
 simp only [Sh,QO] at hc
 rcases hc with (((hc|hc)|hc)|hc)|hc
 ·exact dg _ _ c hc
 ·exact dg _ _ c hc
 ·exact (cS (ag (aq aj (ae 100)) (ag (aH aa aj) (aD aa (ae 256))))) hn hc
 ·exact h c hc
 ·exact dg _ _ c hc
theorem fold_lt (salt:Nat):∀ (rs:List Row) (s:cF),(∀ r∈rs,r.1.length≤6∧∀ c∈r.1,c<256)→(∀ c∈s.bd,c<256)→∀ c∈(rs.foldl (bz salt) s).bd,c<256
 | [],s,_,h=>h
 | r::rs,s,h,hs=>fold_lt salt rs _ (fun q hq=>h q (QD _ hq)) fun c hc=>by
  have h1:=h r QB
  change c∈s.bd++fu _ _ _ _ at hc
  rcases i9 hc with hc|hc
  ·exact hs c hc
  ·exact Bv (Qx h1.1 av) h1.2 c hc
theorem lV:∀ hs:List Nat,((hs.map fun h=>aZ h 2).flatten).length=2*hs.length:=by
 intro hs
 induction hs with
 | nil =>
  exact rfl
 | cons h r bA =>
  exact by rw [QT,RJ,QA,bA,ax,QC];exact @Gg _
theorem fq {ls:List aU}{salt:Nat}{rs:List Row}{l:aU}{k:Nat}(hR:bH rs) (h8:rs.length≤8) (hl:l.1<256):16≤(bw ls salt rs l k).length∧(bw ls salt rs l k).length≤184∧∀ c∈bw ls salt rs l k,c<256:=by
 have hm:∀ r∈bg ls salt rs k,r.1.length≤6∧∀ c∈r.1,c<256:=fun r hr=>by
  have:=(jz hr).1
  exact ⟨(hR.len r this).2,fun c hc=>by have:=ir (hR.sgn r this c hc);exact A4 this⟩
 have hk:=iH ls salt rs k
 unfold bw
 generalize bg ls salt rs k=q at *
 have h1:=Bn salt q jg fun r hr=>(hm r hr).1
 have h2:=(k9 salt q jg rfl rfl).1
 have h3:=fold_lt salt q jg hm fun c hc=>(nomatch hc)
 change (cY salt q).bd.length≤0+_ at h1
 change (cY salt q).hs.length=4 at h2
 change ∀ c∈(cY salt q).bd,c<256 at h3
 generalize cY salt q=st at *
 have hlen:(ke l q st).length=16+st.bd.length:=by
  unfold ke
  simp only [QA,ax,QC,QP,lV,h2]
 refine ⟨by exact (cS (ag (aH aa (ak (ae 16) aj)) (aq (ae 16) aa))) hlen,by exact (ji (ag (aq aj (ae 8)) (ag (aq az aj) (ag (aq a7 (ak (ae 0) (dO 21 az))) (ag (aH aa (ak (ae 16) a7)) (aq aa (ae 184))))))) h8 hk h1 hlen,fun c hc=>?_⟩
 unfold ke at hc
 simp only [Sh,R1,RB,or_false] at hc
 rcases hc with ((((hc|hc)|hc)|hc)|hc)|hc
 ·exact (dW (ag (aH aa (ae 3)) (aD aa (ae 256)))) hc
 ·exact (cS (ag (aD aj (ae 256)) (ag (aH aa aj) (aD aa (ae 256))))) hl hc
 ·exact dg _ _ c hc
 ·exact dg _ _ c hc
 ·obtain ⟨w,hw,hc⟩:=List.mem_flatten.mp hc
  obtain ⟨h,_,rfl⟩:=dj hw
  exact dg _ _ c hc
 ·exact h3 c hc
section
variable {X:Cx}{P:bj}{n:Nat}{sc:QM}{ρ af ay:Rw}{b ao b₂:Array UInt8}
theorem uB (L:cP X P) {salt bits tb:Nat}{ls:List aU}{ord:List Nat}{rs:List Row}(g5:LsOk ls) {k:Nat}{t elt cond:QR}{sc:QM}(aY:sc=ik (aw (top 57)) (match (aX (bD (top 57) 6)).getD 0 (.Pass default) with|.Assign _ (.Call _ [_,_,.ListComp _ _ s _] _ _) _=>s|_=>default))
  (ht:t=(match (aX (bD (top 57) 6)).getD 0 (.Pass default) with|.Assign _ (.Call _ [_,_,.ListComp _ [⟨t,_,_,_⟩] s _] _ _) _=>t|_=>.Name "" default))
  (H6:elt=(match (aX (bD (top 57) 6)).getD 0 (.Pass default) with|.Assign _ (.Call _ [_,_,.ListComp e _ s _] _ _) _=>e|_=>.Name "" default))
  (hc:cond=(match (aX (bD (top 57) 6)).getD 0 (.Pass default) with|.Assign _ (.Call _ [_,_,.ListComp _ [⟨_,_,[c],_⟩] s _] _ _) _=>c|_=>.Name "" default)) (ρ:Rw)
  (hI:lk ρ ("salt":Qy)=some (.val (.int (salt:Int)))∧lk ρ ("leaves":Qy)=some (.val (.list (ls.map ba)))∧lk ρ ("k":Qy)=some (.val (.int (k:Int)))):bQ X (n+2) sc t [cond] elt b (rs.map a8) ρ ((bg ls salt rs k).map a8):=by
 subst aY ht H6 hc
 obtain ⟨f1,hP⟩:=L.fn 33 _ rfl
 obtain ⟨f2,hZ⟩:=L.fn 15 _ rfl
 have e:(bg ls salt rs k).map a8=((rs.map a8).filter fun d=>match d with|.tup [.str x,_]=>decide (a6 ls (aT x.cps.toList salt)=k)|_=>false).map id:=by
  rw [List.map_id,List.filter_map];rfl
 rw [e]
 refine bQ.some (fun ρ=>lk ρ ("salt":Qy)=some (.val (.int (salt:Int)))∧lk ρ ("leaves":Qy)=some (.val (.list (ls.map ba)))∧lk ρ ("k":Qy)=some (.val (.int (k:Int)))) _ _ _ (fun d hd ρ hI=>?_) _ hI
 obtain ⟨⟨nm,num⟩,_,rfl⟩:=dj hd
 have hx:lk (aS ρ "row" (.val (a8 (nm,num)))) ("row":Qy)=some (.val (.tup [.str (bR nm),.int (num:Int)])):=aR rfl
 have hs:lk (aS ρ "row" (.val (a8 (nm,num)))) ("salt":Qy)=some (.val (.int (salt:Int))):=aR hI.1
 have hl:lk (aS ρ "row" (.val (a8 (nm,num)))) ("leaves":Qy)=some (.val (.list (ls.map ba))):=aR hI.2.1
 have hk:lk (aS ρ "row" (.val (a8 (nm,num)))) ("k":Qy)=some (.val (.int (k:Int))):=aR hI.2.2
 have ev:(((a6 ls (aT nm salt):Nat):Int)==(k:Int))=decide (a6 ls (aT nm salt)=k):=by
  by_cases q:a6 ls (aT nm salt)=k
  ·simp [q]
  ·rw [decide_eq_false q];exact beq_eq_false_iff_ne.mpr (wX q)
 exact ⟨_,.name av av,⟨hs,hl,hk⟩,ST.bY (cg (bp (L.gf 25 _ rfl) hP (au (ai hl) (au (SE.jW (bp (L.gf 11 _ rfl) hZ (au (SE.n5 (ds:=[.str (bR nm),.int (num:Int)]) (i:=0) (ai hx) aC av av rfl) (au (ai hs) aF)) (fh (name:=bR nm) L)) (jP nm salt)) aF)) (fH (told:=aT nm salt) L (by have:=g5.xI;exact Qx this av) g5.dep (g5.all _ (eH nm salt)))) (ai hk) aQ.vU) ev,fun _=>ai hx⟩
end
section
variable {X:Cx}{P:bj}{n:Nat}{sc:QM}{ρ af ay:Rw}{b ao b₂:Array UInt8}
theorem zR (L:cP X P) {salt bits tb:Nat}{ls:List aU}{ord:List Nat}{rs:List Row}(g5:LsOk ls) (hR:bH rs) (h8:rs.length≤8) {l:aU}(hl:l.1<256) {k:Nat}(hk:k<ord.length) (vH:ord.length≤100) (ho:ord.getD k 0≤20) (hb:b.size≤50000)
  {acc:List D}(uq:acc.length≤100) (I:BP salt bits ls ord tb rs ρ) (hF:lk ρ ("firsts":Qy)=some (.own acc)) :
  ∃ nr ρ',pA (aw (top 57)) false (dq (bD (top 57) 6)) (.tup [aI k,ba l]) ρ nr∧SS X (n+3) (aw (top 57)) (aX (bD (top 57) 6)) nr b (.next ρ' (wr b (ord.getD k 0*256) (bY (bw ls salt rs l k))))∧BP salt bits ls ord tb rs ρ'∧lk ρ' ("firsts":Qy)=some (.own (acc++[cz ls salt rs k])):=by
 obtain ⟨f1,hL⟩:=L.fn 34 _ rfl
 obtain ⟨Ge,Gd,NS⟩:=fq (ls:=ls) (salt:=salt) (k:=k) hR h8 hl
 have Oh:(bg ls salt rs k).length≤8:=Qx (iH ..) h8
 have Oi:∀ r∈bg ls salt rs k,r.1.length≤100:=fun r hr=>by
  have:=(hR.len r (jz hr).1).2
  exact Qx this av
 have M1:=ua (n:=n+1) (b:=b) (salt:=salt) (l:=l) (rs:=bg ls salt rs k) L (Qx Oh av) Oi
 change cb X (n+1+2) 459 _ b (.ok (.tup [.list ((bw ls salt rs l k).map aI),cz ls salt rs k]) b) at M1
 have lB:=fun ρ hI=>uB (n:=n+1) (b:=b) (salt:=salt) (ls:=ls) (bits:=bits) (tb:=tb) (ord:=ord) (rs:=rs) L g5 (k:=k) rfl rfl rfl rfl ρ hI
 have Oj:(rs.map a8).length≤100000:=by rw [Qu];exact Qx h8 av
 have hT:pA (aw (top 57)) false (dq (bD (top 57) 6)) (.tup [aI k,ba l]) ρ (aS (aS ρ "k" (.val (aI k))) "leaf" (.val (ba l))):=.tup (xs:=["k","leaf"]) (.cons (.cons .nil)) rfl av (by intro h;cases h)
 have I1:=(I.put "k" (.val (aI k)) av).put "leaf" (.val (ba l)) av
 have kk:lk (aS (aS ρ "k" (.val (aI k))) "leaf" (.val (ba l))) ("k":Qy)=some (.val (.int (k:Int))):=by rw [bx,bx];rfl
 have kl:lk (aS (aS ρ "k" (.val (aI k))) "leaf" (.val (ba l))) ("leaf":Qy)=some (.val (ba l)):=by rw [bx];rfl
 have kf:lk (aS (aS ρ "k" (.val (aI k))) "leaf" (.val (ba l))) ("firsts":Qy)=some (.own acc):=aR (aR hF)
 generalize aS (aS ρ "k" (.val (aI k))) "leaf" (.val (ba l))=ek at *
 have call:SE X (n+3) (aw (top 57)) (match (aX (bD (top 57) 6)).getD 0 (.Pass default) with|.Assign _ v _=>v|_=>.Name "" default) ek b (.tup [.list ((bw ls salt rs l k).map aI),cz ls salt rs k]) ek b :=
  bp (L.gf 26 _ rfl) hL (au (ai kl) (au (ai I1.s) (au (i7 (own:=false) (fW:=["salt","leaves","k"]) (IT.list (ai I1.r)) av (.cons I1.s (.cons I1.l (.cons kk .nil))) (.cons I1.s (.cons I1.l (.cons kk .nil))) (lB _ ⟨rfl,rfl,rfl⟩) Oj) aF))) M1
 have s0:S1 X (n+3) (aw (top 57)) ((aX (bD (top 57) 6)).getD 0 (.Pass default)) ek b (.next (aS (aS ek "octets" (.val (.list ((bw ls salt rs l k).map aI)))) "first" (.val (cz ls salt rs k))) b) :=
  S1.jR (xs:=["octets","first"]) call (.cons (.cons .nil)) rfl av
 have I2:=(I1.put "octets" (.val (.list ((bw ls salt rs l k).map aI))) av).put "first" (.val (cz ls salt rs k)) av
 have ko:lk (aS (aS ek "octets" (.val (.list ((bw ls salt rs l k).map aI)))) "first" (.val (cz ls salt rs k))) ("octets":Qy)=some (.val (.list ((bw ls salt rs l k).map aI))):=by rw [bx,bx];rfl
 have kt:lk (aS (aS ek "octets" (.val (.list ((bw ls salt rs l k).map aI)))) "first" (.val (cz ls salt rs k))) ("first":Qy)=some (.val (cz ls salt rs k)):=by rw [bx];rfl
 have k2:lk (aS (aS ek "octets" (.val (.list ((bw ls salt rs l k).map aI)))) "first" (.val (cz ls salt rs k))) ("k":Qy)=some (.val (.int (k:Int))):=aR (aR kk)
 have MC:lk (aS (aS ek "octets" (.val (.list ((bw ls salt rs l k).map aI)))) "first" (.val (cz ls salt rs k))) ("firsts":Qy)=some (.own acc):=aR (aR kf)
 generalize aS (aS ek "octets" (.val (.list ((bw ls salt rs l k).map aI)))) "first" (.val (cz ls salt rs k))=ej at *
 have ei:((ord.getD k 0:Nat):Int)*256=((ord.getD k 0*256:Nat):Int):=by exact @DS _
 have s1:S1 X (n+3) (aw (top 57)) ((aX (bD (top 57) 6)).getD 1 (.Pass default)) ej b (.next ej (wr b (ord.getD k 0*256) (bY (bw ls salt rs l k)))):=by
  refine dI (d:=.none) (SE.fU L.V L.Y (ai I2.v) (au aC (au (SE.jW (dH (SE.gA (d:=.int ((ord.getD k 0:Nat):Int)) (ai I2.o) (ai k2) (@pb _) ((cS (ag (aD aa aj) (ag (aq aj (ae 100)) (cU (aL aa) (aJ (2 ^ 63)))))) hk vH) (getD_map hk)) aC (mulR av av)) ei) (au (SE.gI (ai ko) NS ((dW (ag (aq (ae 16) aa) (ag (aq aa (ae 184)) (aq aa (ae 1000000))))) Ge Gd)) aF))) (.tail _ (.tail _ (.tail _ (.head _)))) (gu L (Qx hb av) (DR ho) (by rw [aK];exact (dW (ag (aq (ae 16) aa) (ag (aq aa (ae 184)) (aD (ae 0) aa)))) Ge Gd) (by rw [aK];exact (dW (ag (aq (ae 16) aa) (ag (aq aa (ae 184)) (aq aa (ae 1000))))) Ge Gd)))
 have s2:S1 X (n+3) (aw (top 57)) ((aX (bD (top 57) 6)).getD 2 (.Pass default)) ej (wr b (ord.getD k 0*256) (bY (bw ls salt rs l k))) (.next (aS ej "firsts" (.own (acc++[cz ls salt rs k]))) (wr b (ord.getD k 0*256) (bY (bw ls salt rs l k)))) :=
  dI (d:=.none) (SE.append MC (ai kt) MC (Qx uq av))
 exact ⟨ek,_,hT,aG s0 (aG s1 (aG s2 bX)),I2.put _ _ av,aR rfl⟩
theorem xn (L:cP X P) {salt bits tb:Nat}{ls:List aU}{ord:List Nat}{rs:List Row}(g5:LsOk ls) (hR:bH rs) (h8:rs.length≤8) (vH:ord.length≤100) (ho:∀ k,ord.getD k 0≤20):∀ (qs:List aU) (k m:Nat) (b:Array UInt8) (acc:List D) (ρ:Rw),
  (∀ l∈qs,l.1<256)→k+qs.length≤ord.length→b.size≤6000+256*m→m+qs.length≤150→acc.length=k→BP salt bits ls ord tb rs ρ→lk ρ ("firsts":Qy)=some (.own acc) →
  ∃ ρ',ey X (n+3) (aw (top 57)) (dq (bD (top 57) 6)) (aX (bD (top 57) 6)) ((qs.zipIdx k).map fun x=>D.tup [aI x.2,ba x.1]) ρ b (.next ρ' (dK ls salt rs ord qs k b))∧lk ρ' ("firsts":Qy)=some (.own (acc++(range' k qs.length).map (cz ls salt rs))):=fun qs=>by
 induction qs with
 | nil =>
  exact fun k m b acc ρ _ _ _ _ _ I hF=>⟨ρ,.nil,by simpa using hF⟩
 | cons l qs bA =>
  intro k m b acc ρ hl hk hb hm ha I hF
  rw [QC] at hk hm
  obtain ⟨nr,af,hT,hS,I1,Ph⟩:=zR (n:=n) (b:=b) L g5 hR h8 (hl l QB) (show k<ord.length by exact (ji (ag (aq (ak aa (ak az (ae 1))) aj) (ag (aH a7 aa) (aD aa aj)))) hk ha) vH (ho k) ((dC (ag (aq aa (ak (ae 6000) (dO 256 aj))) (ag (aq (ak aj (ak az (ae 1))) (ae 150)) (aq aa (ae 50000))))) hb hm) (show acc.length≤100 by exact (ji (ag (aq aj (ae 100)) (ag (aq (ak az (ak a7 (ae 1))) aj) (ag (aH aa az) (aq aa (ae 100)))))) vH hk ha) I hF
  have hlen:=(fq (ls:=ls) (salt:=salt) (k:=k) hR h8 (hl l QB)).2.1
  have hsz:=dz b (ord.getD k 0*256) (bY (bw ls salt rs l k))
  rw [aK] at hsz
  have Dh:=ho k
  have hmul:ord.getD k 0*256≤5120:=by exact (dW (ag (aq aa (ae 20)) (aq (cD aa 256) (ae 5120)))) Dh
  have key:∀ {w z m q x o:Nat},z≤6000+256*m→m+(q+1)≤150→x≤184→w≤max z (o*256+x)+256→o≤20→w≤6000+256*(m+1):=fun h1 h2 h3 h4 h5=>(Lq 6 0 [oQ az (ak (cD gh 256) cM)] (ag (aq az (ak (ae 6000) (dO 256 aj))) (ag (aq (ak aj (ak a7 (ae 1))) (ae 150)) (ag (aq cM (ae 184)) (ag (aq aa (ak oP (ae 256))) (ag (aq gh (ae 20)) (aq aa (ak (ae 6000) (dO 256 (ak aj (ae 1))))))))))) h1 h2 h3 h4 h5
  have FC:(wr b (ord.getD k 0*256) (bY (bw ls salt rs l k))).size≤6000+256*(m+1):=key hb hm hlen hsz Dh
  have e:dK ls salt rs ord (l::qs) k b=dK ls salt rs ord qs (k+1) (wr b (ord.getD k 0*256) (bY (bw ls salt rs l k))):=rfl
  rw [e,List.zipIdx_cons,QT,QC,List.range'_succ,QT]
  generalize wr b (ord.getD k 0*256) (bY (bw ls salt rs l k))=bb at *
  obtain ⟨ρ',O9,Pj⟩:=bA (k+1) (m+1) bb _ af (fun q hq=>hl q (QD _ hq)) ((ji (ag (aq (ak aa (ak aj (ae 1))) az) (ag (aH a7 aa) (aq (ak (ak aa (ae 1)) aj) az)))) hk ha) FC ((cS (ag (aq (ak aa (ak aj (ae 1))) (ae 150)) (aq (ak (ak aa (ae 1)) aj) (ae 150)))) hm) (by rw [QA,ha];rfl) I1 Ph
  refine ⟨ρ',.next hT hS O9,?_⟩
  rw [Pj,Q9];rfl
theorem sI (ls:List aU):(dF (ls.map ba)).map D.tup=(ls.zipIdx 0).map fun x=>D.tup [aI x.2,ba x.1]:=by
 refine SX (by simp [dF]) fun i h1 h2=>?_
 simp [dF,aI]
noncomputable def bU (bits salt:Nat) (ls:List aU) (rs:List Row) (tb:Nat):List Nat:=ix bits salt rs.length (4+ls.length) tb
noncomputable def qX (salt bits:Nat) (ls:List aU) (ord:List Nat) (tb:Nat) (rs:List Row) (b:Array UInt8):Array UInt8 :=
 dK ls salt rs ord ls 0 (wr (wr b 0 (bY (bU bits salt ls rs tb))) (tb*256) (bY (cE bits ls ord (2 ^ bits))))
set_option maxHeartbeats 1600000 in
theorem w9 (L:cP X P) {salt bits tb:Nat}{ls:List aU}{ord:List Nat}{rs:List Row}(g5:LsOk ls) (uj:ls.length≤8) (Fv:∀ l∈ls,l.1<256) (hR:bH rs) (h8:rs.length≤8) (hb:bits≤3) (ft:ord.length=ls.length) (Dg:∀ k∈ord,k≤20) (vD:tb≤20) (hz:b.size≤6000) :
  cb X (n+4) 464 [.ext 0,.int (salt:Int),.int (bits:Int),.list (ls.map ba),.list (ord.map aI),.int (tb:Int),.list (rs.map a8)] b (.ok (.list ((range' 0 ls.length).map (cz ls salt rs))) (qX salt bits ls ord tb rs b)):=by
 obtain ⟨fd,hF⟩:=L.fn 35 _ rfl
 obtain ⟨f2,hG⟩:=L.fn 29 _ rfl
 have kZ:2 ^ bits≤8:=by
  have:(2:Nat) ^ bits≤2 ^ 3:=Q3 av hb
  exact this
 have ho:∀ k,ord.getD k 0≤20:=fun k=>by
  rw [Qw]
  cases e:ord[k]? with
  | none=>exact RC _
  | some v=>exact Dg v (Q1 e)
 have I0:BP salt bits ls ord tb rs ((["view","salt","bits","leaves","order","table","rows"]:List Qy).zip (([.ext 0,.int (salt:Int),.int (bits:Int),.list (ls.map ba),.list (ord.map aI),.int (tb:Int),.list (rs.map a8)]:List D).map En.val)):=⟨rfl,rfl,rfl,rfl,rfl,rfl,rfl⟩
 have fin:=fun {d:D}{b':Array UInt8}{ρ':Rw} h=>bV (X:=X) (n:=n+3) (b:=b) (d:=d) (b':=b') (ρ':=ρ') hF (ds:=[.ext 0,.int (salt:Int),.int (bits:Int),.list (ls.map ba),.list (ord.map aI),.int (tb:Int),.list (rs.map a8)]) rfl av h
 generalize (["view","salt","bits","leaves","order","table","rows"]:List Qy).zip (([.ext 0,.int (salt:Int),.int (bits:Int),.list (ls.map ba),.list (ord.map aI),.int (tb:Int),.list (rs.map a8)]:List D).map En.val)=ki at *
 have s0:S1 X (n+3) (aw (top 57)) ((bodyOf (top 57)).getD 0 (.Pass default)) ki b (.next (aS ki "named" (.val (.list []))) b):=cj (dk aF)
 have I1:=I0.put "named" (.val (.list [])) av
 have n1:lk (aS ki "named" (.val (.list []))) ("named":Qy)=some (.val (.list ((cE bits ls ord 0).map aI))):=aR rfl
 generalize aS ki "named" (.val (.list []))=ek at *
 obtain ⟨ej,hT,I2,n2⟩:=xo (n:=n+2) (b:=b) L g5 hb ft (2 ^ bits) 0 ek (@Hj _) I1 n1
 rw [Sk] at n2
 have e2:((2:Int) ^ ((bits:Int)).toNat)=((2 ^ bits:Nat):Int):=by rw [QW];simp
 have s1:S1 X (n+3) (aw (top 57)) ((bodyOf (top 57)).getD 1 (.Pass default)) ek b (.next ej b):=by
  have er:range' 0 (2 ^ bits)=range (((2 ^ bits:Nat):Int)).toNat:=by rw [QW,List.range_eq_range']
  rw [er] at hT
  exact S1.For (mH (SE.jW (SE.pow aC (ai I1.b) (yW hb) (yV hb) av) e2) (Int.le_trans av (Int.natCast_nonneg _)) (Int.lt_of_le_of_lt (Int.ofNat_le.mpr kZ) av)) hT
 have el:(((rs.map a8).length:Nat):Int)=(rs.length:Int):=by rw [Qu]
 have JF:(((4:Int)+((ls.map ba).length:Nat)):Int)=((4+ls.length:Nat):Int):=by rw [Qu];exact @Hi _
 have s2:S1 X (n+3) (aw (top 57)) ((bodyOf (top 57)).getD 2 (.Pass default)) ej b (.next (aS ej "head" (.val (.list (([2,bits]++aZ salt 4++aZ rs.length 4).map aI)))) b):=by
  refine cj (SE.wu (SE.iB (SE.iB (dk (au aC (au (ai I2.b) aF))) (bp (L.gf 21 _ rfl) hG (au (ai I2.s) (au aC aF)) (bE (m:=4) L av)) ?_)
   (bp (L.gf 21 _ rfl) hG (au (SE.jW (SE.nY (ai I2.r) (by rw [Qu];exact C6 h8 el)) el) (au aC aF)) (bE (m:=4) L av)) ?_) ?_)
  ·simp only [Qu,QC,QP,ax];decide
  ·simp only [QA,Qu,QC,QP,ax];decide
  ·simp [aI]
 have I3:=I2.put "head" (.val (.list (([2,bits]++aZ salt 4++aZ rs.length 4).map aI))) av
 have h3:lk (aS ej "head" (.val (.list (([2,bits]++aZ salt 4++aZ rs.length 4).map aI)))) ("head":Qy)=some (.val (.list (([2,bits]++aZ salt 4++aZ rs.length 4).map aI))):=aR rfl
 have n3:lk (aS ej "head" (.val (.list (([2,bits]++aZ salt 4++aZ rs.length 4).map aI)))) ("named":Qy)=some (.val (.list ((cE bits ls ord (2 ^ bits)).map aI))):=aR n2
 generalize aS ej "head" (.val (.list (([2,bits]++aZ salt 4++aZ rs.length 4).map aI)))=gr at *
 have eh:bU bits salt ls rs tb=[2,bits]++aZ salt 4++aZ rs.length 4++aZ (4+ls.length) 4++aZ tb 4:=by
  simp [bU,ix]
 have Av:(bU bits salt ls rs tb).length=18:=by
  rw [eh];simp only [QA,ax,QC,QP]
 have HV:∀ c∈bU bits salt ls rs tb,c<256:=fun c hc=>by
  rw [eh] at hc
  simp only [Sh,R1,RB,or_false] at hc
  rcases hc with (((hc|hc)|hc)|hc)|hc
  ·exact (cS (ag (aq aj (ae 3)) (ag (j6 (aH aa (ae 2)) (aH aa aj)) (aD aa (ae 256))))) hb hc
  ·exact dg _ _ c hc
  ·exact dg _ _ c hc
  ·exact dg _ _ c hc
  ·exact dg _ _ c hc
 have eB:SE X (n+3) (aw (top 57)) (match (bodyOf (top 57)).getD 3 (.Pass default) with|.Expr (.Call _ [_,_,.Call _ [a] _ _] _ _) _=>a|_=>.Name "" default) gr b (.list ((bU bits salt ls rs tb).map aI)) gr b:=by
  refine SE.wu (SE.iB (SE.iB (ai h3) (bp (L.gf 21 _ rfl) hG (au (SE.jW (cZ aC (SE.nY (ai I3.l) (by rw [Qu];exact (dC (ag (aq aa (ae 8)) (ag (aH aj aa) (ag (cu (cn (aJ 4) (aL az)) (aL (ak (ae 4) aa))) (aq aa (ae 1000000)))))) uj ft JF))) JF) (au aC aF)) (bE (m:=4) L av)) ?_)
   (bp (L.gf 21 _ rfl) hG (au (ai I3.t) (au aC aF)) (bE (m:=4) L av)) ?_) ?_
  ·simp only [QA,Qu,QC,QP,ax];decide
  ·simp only [QA,Qu,QC,QP,ax];decide
  ·rw [eh];simp
 have s3:S1 X (n+3) (aw (top 57)) ((bodyOf (top 57)).getD 3 (.Pass default)) gr b (.next gr (wr b 0 (bY (bU bits salt ls rs tb)))) :=
  dI (d:=.none) (SE.fU L.V L.Y (ai I3.v) (au aC (au aC (au (SE.gI eB HV (Qx (RP Av) av)) aF))) (.tail _ (.tail _ (.tail _ (.head _)))) (gu (i:=0) L (Qx hz av) @yT (by rw [aK];exact (dW (ag (aH aa (ae 18)) (aD (ae 0) aa))) Av) (by rw [aK];exact Qx (RP Av) av)))
 have Hx:=dz b 0 (bY (bU bits salt ls rs tb))
 rw [aK,Av] at Hx
 have uh:=fk bits ls ord (2 ^ bits)
 have Jr:0<2 ^ bits:=Ti av
 have HK:∀ c∈cE bits ls ord (2 ^ bits),c<256:=fun c hc=>by
  obtain ⟨w,hw,hc⟩:=List.mem_flatten.mp hc
  obtain ⟨h,_,rfl⟩:=dj hw
  exact dg _ _ c hc
 have et:((tb:Nat):Int)*256=((tb*256:Nat):Int):=by exact @DS _
 have gN:qX salt bits ls ord tb rs b=dK ls salt rs ord ls 0 (wr (wr b 0 (bY (bU bits salt ls rs tb))) (tb*256) (bY (cE bits ls ord (2 ^ bits)))):=rfl
 rw [gN]
 generalize wr b 0 (bY (bU bits salt ls rs tb))=b1 at *
 have s4:S1 X (n+3) (aw (top 57)) ((bodyOf (top 57)).getD 4 (.Pass default)) gr b1 (.next gr (wr b1 (tb*256) (bY (cE bits ls ord (2 ^ bits))))) :=
  dI (d:=.none) (SE.fU L.V L.Y (ai I3.v) (au aC (au (SE.jW (dH (ai I3.t) aC (mulR av av)) et) (au (SE.gI (ai n3) HK ((Lq 2 1 [] (ag (aq aj (ae 8)) (ag (cu bc (aL aj)) (ag (aH aa (dO 4 aj)) (ag (aD (ae 0) aj) (aq aa (ae 1000000))))))) kZ e2 uh Jr)) aF))) (.tail _ (.tail _ (.tail _ (.head _)))) (gu L ((Lq 2 0 [oQ aj (ak (ae 0) (ae 18))] (ag (aq aj (ae 6000)) (ag (aq aa (ak az (ae 256))) (aq aa (ae 100000))))) hz Hx) (DR vD) (by rw [aK];exact (Lq 2 1 [] (ag (aq aj (ae 8)) (ag (cu bc (aL aj)) (ag (aH aa (dO 4 aj)) (ag (aD (ae 0) aj) (aD (ae 0) aa)))))) kZ e2 uh Jr) (by rw [aK];exact (Lq 2 1 [] (ag (aq aj (ae 8)) (ag (cu bc (aL aj)) (ag (aH aa (dO 4 aj)) (ag (aD (ae 0) aj) (aq aa (ae 1000))))))) kZ e2 uh Jr)))
 have Bd:=dz b1 (tb*256) (bY (cE bits ls ord (2 ^ bits)))
 rw [aK,uh] at Bd
 generalize wr b1 (tb*256) (bY (cE bits ls ord (2 ^ bits)))=b2 at *
 have s5:S1 X (n+3) (aw (top 57)) ((bodyOf (top 57)).getD 5 (.Pass default)) gr b2 (.next (aS gr "firsts" (.own [])) b2):=S1.lj (SF.lst aF)
 have I4:=I3.put "firsts" (.own []) av
 have f4:lk (aS gr "firsts" (.own [])) ("firsts":Qy)=some (.own []):=aR rfl
 generalize aS gr "firsts" (.own [])=rn at *
 obtain ⟨xF,Nh,f5⟩:=xn (n:=n) L g5 hR h8 ((dC (ag (aq aj (ae 8)) (ag (aH aa aj) (ag (cu (cn (aJ 4) (aL az)) (aL (ak (ae 4) aj))) (aq aa (ae 100)))))) uj ft JF) ho ls 0 2 b2 [] rn Fv ((cS (ag (aH aj aa) (aq (ak (ae 0) aa) aj))) ft) ((Lq 5 1 [oQ az (ak (ae 0) (ae 18)),oQ cM (ak (cD aj 256) (dO 4 a7))] (ag (aq aj (ae 20)) (ag (aq az (ae 6000)) (ag (aq a7 (ae 8)) (ag (cu bc (aL a7)) (ag (aD (ae 0) a7) (ag (aq cM (ak gh (ae 256))) (ag (aq aa (ak oP (ae 256))) (aq aa (ak (ae 6000) (dO 256 (ae 2)))))))))))) vD hz kZ e2 Jr Hx Bd) ((dC (ag (aq aa (ae 8)) (ag (aH aj aa) (ag (cu (cn (aJ 4) (aL az)) (aL (ak (ae 4) aa))) (aq (ak (ae 2) aa) (ae 150)))))) uj ft JF) rfl I4 f4
 have s6:S1 X (n+3) (aw (top 57)) ((bodyOf (top 57)).getD 6 (.Pass default)) rn b2 (.next xF (dK ls salt rs ord ls 0 b2)):=by
  rw [← sI] at Nh
  exact S1.For (IT.Dp (ai I4.l)) Nh
 rw [List.nil_append] at f5
 exact fin (aG s0 (aG s1 (aG s2 (aG s3 (aG s4 (aG s5 (aG s6 (bF (bN (SE.my f5))))))))))
end
theorem oa {bits told:Nat}{l:aU}(hl:l.1≤bits) (hb:bits≤32):mQ told l=lF bits (told / 2 ^ (32-bits)) l:=by
 unfold mQ lF
 rw [Nat.div_div_eq_div_mul,← Vk,show 32-bits+(bits-l.1)=32-l.1 by exact (Lq 2 0 [b9 (ae 32) aa,b9 aa aj,b9 (ae 32) aj] (ag (aq aj aa) (ag (aq aa (ae 32)) (aH (ak az a7) cM)))) hl hb]
theorem lJ {bits told:Nat}(hb:bits≤32) (h:told<4294967296):told / 2 ^ (32-bits)<2 ^ bits:=by
 rw [Nat.div_lt_iff_lt_mul (Ti av),← Vk,show bits+(32-bits)=32 by exact (Lq 1 0 [b9 (ae 32) aa] (ag (aq aa (ae 32)) (aH (ak aa aj) (ae 32)))) hb]
 exact h
theorem bW.ok {bits:Nat}{ls:List aU}(h:bW bits ls) (hb:bits≤3):LsOk ls:=by
 have kZ:2 ^ bits≤8:=by
  have:(2:Nat) ^ bits≤2 ^ 3:=Q3 av hb
  exact this
 refine ⟨by have:=h.len;exact CD kZ this,fun l hl=>by have:=h.dep l hl;exact (cS (ag (aq aj (ae 3)) (ag (aq aa aj) (aq aa (ae 32))))) hb this,fun told ht=>?_⟩
 have hc:=h.lF _ (lJ (bits:=bits) (Qx hb av) ht)
 have El:0<ls.countP (Mine.Internal.lF bits (told / 2 ^ (32-bits))):=by exact (dW (ag (aH aa (ae 1)) (aD (ae 0) aa))) hc
 obtain ⟨l,hl,hp⟩:=List.countP_pos_iff.mp El
 exact Sg.mpr ⟨l,hl,by rw [oa (h.dep l hl) (Qx hb av)];exact hp⟩
noncomputable def bJ (z:Int) (m:Nat):List Nat:=(range m).map fun k=>4+(if z.fmod 2=0 then k else m-1-k)
theorem gz (z:Int) (m:Nat):(bJ z m).length=m:=by unfold bJ;rw [Qu,Q6]
theorem jS {z:Int}{m:Nat}(hm:m≤8):∀ k∈bJ z m,4≤k∧k<4+m:=fun k hk=>by
 obtain ⟨j,hj,rfl⟩:=dj hk
 have:=R8.mp hj
 split<;>(first|exact (cS (ag (aD aa aj) (dB (aq (ae 4) (ak (ae 4) aa)) (aD (ak (ae 4) aa) (ak (ae 4) aj))))) this|exact (Lq 2 0 [b9 aa (ae 1),b9 az aj] (ag (aD aj aa) (dB (aq (ae 4) (ak (ae 4) a7)) (aD (ak (ae 4) a7) (ak (ae 4) aa))))) this)
noncomputable def nC (z:Int):Nat:=(1+(z.fdiv 2).fmod 3).toNat
theorem iM (z:Int) {k:Int}(h:0<k):0≤z.fmod k∧z.fmod k<k:=by
 rw [Int.fmod_eq_emod_of_nonneg _ (by exact C0 h)]
 exact ⟨Int.emod_nonneg _ (CZ h),Int.emod_lt_of_pos _ h⟩
theorem qp (z:Int):1+(z.fdiv 2).fmod 3=(nC z:Int)∧1≤nC z∧nC z≤3:=by
 have:=iM (z.fdiv 2) (k:=3) av
 unfold nC
 exact (Lq 0 1 [gk (cn (aJ 1) bc)] (ag (dB (bM (aJ 0) bc) (cU bc (aJ 3))) (dB (cu (cn (aJ 1) bc) (aL aa)) (dB (aq (ae 1) aa) (aq aa (ae 3)))))) this
noncomputable def pM (z:Int) (m:Nat):Nat:=((z.fdiv 6).fmod (m:Int)).toNat
theorem rN (z:Int) {m:Nat}(h:0<m):(z.fdiv 6).fmod (m:Int)=(pM z m:Int)∧pM z m<m:=by
 have:=iM (z.fdiv 6) (k:=(m:Int)) ((dW (ag (aD (ae 0) aa) (cU (aJ 0) (aL aa)))) h)
 unfold pM
 exact (Lq 1 1 [gk bc] (ag (dB (bM (aJ 0) bc) (cU bc (aL aa))) (dB (cu bc (aL aj)) (aD aj aa)))) this
noncomputable def gd (z:Int):Nat:=([0,1,2,255]:List Nat).getD ((z.fdiv 48).fmod 4).toNat 0
theorem v7 (z:Int):gd z≠3∧gd z<256:=by
 have:=iM (z.fdiv 48) (k:=4) av
 unfold gd
 generalize hk:((z.fdiv 48).fmod 4).toNat=k
 have:k<4:=by exact Cs this hk
 match k,this with
 | 0,_=>decide
 | 1,_=>decide
 | 2,_=>decide
 | 3,_=>decide
 | k+4,h=>exact (cS (ag (aD (ak aj (ae 4)) (ae 4)) (dB (bI (aH aa (ae 3))) (aD aa (ae 256))))) h
noncomputable def mK (rs:List Row) (z:Int):Row:=rs.getD (pM z rs.length) ([],0)
noncomputable def eI (salt:Nat) (rs:List Row) (z:Int):Nat:=aT (mK rs z).1 salt
noncomputable def eY (salt:Nat) (ls:List aU) (rs:List Row) (z:Int):Nat:=a6 ls (eI salt rs z)
noncomputable def lh (salt:Nat) (ls:List aU) (rs:List Row) (z:Int):Nat:=(gS ls salt rs (eY salt ls rs z)).getD (eI salt rs z % 4) 0
noncomputable def js (ls:List aU) (z:Int) (k:Nat):Nat:=(bJ z ls.length).getD k 0
noncomputable def kJ (salt bits:Nat) (ls:List aU) (rs:List Row) (z:Int) (b:Array UInt8):Array UInt8:=qX salt bits ls (bJ z ls.length) (nC z) rs b
noncomputable def uw (salt bits:Nat) (ls:List aU) (rs:List Row) (z:Int) (b:Array UInt8):Array UInt8:=wr (kJ salt bits ls rs z b) (js ls z (eY salt ls rs z)*256+lh salt ls rs z) (bY (aZ (lh salt ls rs z) 2))
noncomputable def Az (salt bits:Nat) (ls:List aU) (rs:List Row) (z:Int) (b:Array UInt8):Array UInt8:=wr (uw salt bits ls rs z b) (js ls z (eY salt ls rs z)*256) (bY [gd z])
theorem nF {w u o a v:Nat}(h1:u≤20000) (h2:a≤184) (h3:o≤20) (h4:v≤max u (o*256+a+2)+256) (h5:w≤max v (o*256+1)+256):w≤30000:=(Lq 5 0 [oQ aj (ak (ak (cD a7 256) az) (ae 2)),oQ cM (ak (cD a7 256) (ae 1))] (ag (aq aj (ae 20000)) (ag (aq az (ae 184)) (ag (aq a7 (ae 20)) (ag (aq cM (ak gh (ae 256))) (ag (aq aa (ak oP (ae 256))) (aq aa (ae 30000)))))))) h1 h2 h3 h4 h5
theorem wC {w z m x o:Nat}(h1:z≤6000+256*m) (h3:x≤184) (h4:w≤max z (o*256+x)+256) (h5:o≤20):w≤6000+256*(m+1):=(Lq 5 0 [oQ az (ak (cD cM 256) a7)] (ag (aq az (ak (ae 6000) (dO 256 aj))) (ag (aq a7 (ae 184)) (ag (aq aa (ak gh (ae 256))) (ag (aq cM (ae 20)) (aq aa (ak (ae 6000) (dO 256 (ak aj (ae 1)))))))))) h1 h3 h4 h5
theorem yj {w z p u hh o:Nat}(h1:z≤6000) (h2:p≤8) (h3:u≤max z (0+hh)+256) (h4:hh=18) (h5:w≤max u (o*256+4*p)+256) (h6:o≤3):w≤6000+256*2:=(Lq 6 0 [oQ aj (ak (ae 0) cM),oQ a7 (ak (cD gh 256) (dO 4 az))] (ag (aq aj (ae 6000)) (ag (aq az (ae 8)) (ag (aq a7 (ak oP (ae 256))) (ag (aH cM (ae 18)) (ag (aq aa (ak BM (ae 256))) (ag (aq gh (ae 3)) (aq aa (ak (ae 6000) (dO 256 (ae 2))))))))))) h1 h2 h3 h4 h5 h6
theorem sG (ls:List aU) (salt:Nat) {rs:List Row}{ord:List Nat}(hR:bH rs) (h8:rs.length≤8) (ho:∀ k,ord.getD k 0≤20):∀ (qs:List aU) (k m:Nat) (b:Array UInt8),(∀ l∈qs,l.1<256)→b.size≤6000+256*m→(dK ls salt rs ord qs k b).size≤6000+256*(m+qs.length):=fun qs=>by
 induction qs with
 | nil =>
  exact fun k m b _ h=>h
 | cons l qs bA =>
  intro k m b hl h
  have e:dK ls salt rs ord (l::qs) k b=dK ls salt rs ord qs (k+1) (wr b (ord.getD k 0*256) (bY (bw ls salt rs l k))):=rfl
  have hlen:=(fq (ls:=ls) (salt:=salt) (k:=k) hR h8 (hl l QB)).2.1
  have hsz:=dz b (ord.getD k 0*256) (bY (bw ls salt rs l k))
  rw [aK] at hsz
  have Dh:=ho k
  rw [e,QC]
  have:=bA (k+1) (m+1) (wr b (ord.getD k 0*256) (bY (bw ls salt rs l k))) (fun q hq=>hl q (QD _ hq)) (wC h hlen hsz Dh)
  exact (dC (ag (aq aa (ak (ae 6000) (dO 256 (ak (ak aj (ae 1)) az)))) (aq aa (ak (ae 6000) (dO 256 (ak aj (ak az (ae 1)))))))) this
theorem iK {ord:List Nat}{m:Nat}(h:∀ k∈ord,k≤m) (k:Nat):ord.getD k 0≤m:=by
 rw [Qw]
 cases e:ord[k]? with
 | none=>exact RC _
 | some v=>exact h v (Q1 e)
theorem sC {salt bits:Nat}{ls:List aU}{rs:List Row}{z:Int}{b:Array UInt8}(hI:bW bits ls) (hb:bits≤3) (hR:bH rs) (h8:rs.length≤8) (hz:b.size≤6000):(kJ salt bits ls rs z b).size≤20000:=by
 have hl:=hI.len
 have kZ:2 ^ bits≤8:=by
  have:(2:Nat) ^ bits≤2 ^ 3:=Q3 av hb
  exact this
 have ho:=iK (ord:=bJ z ls.length) (m:=20) fun k hk=>by have:=jS (z:=z) (m:=ls.length) ((cS (ag (aq aa aj) (ag (aq aj (ae 8)) (aq aa (ae 8))))) hl kZ) k hk;exact (dC (ag (aq aj az) (ag (aq az (ae 8)) (ag (dB (aq (ae 4) aa) (aD aa (ak (ae 4) aj))) (aq aa (ae 20)))))) hl kZ this
 have hd:∀ l∈ls,l.1<256:=fun l hl=>by have:=hI.dep l hl;exact yQ hb this
 have s1:=dz b 0 (bY (bU bits salt ls rs (nC z)))
 have hh:(bY (bU bits salt ls rs (nC z))).length=18:=by
  rw [aK]
  unfold bU ix
  simp only [QA,ax,QC,QP]
 have s2:=dz (wr b 0 (bY (bU bits salt ls rs (nC z)))) (nC z*256) (bY (cE bits ls (bJ z ls.length) (2 ^ bits)))
 rw [aK,fk] at s2
 have ht:=(qp z).2.2
 have:=sG ls salt hR h8 ho ls 0 2 (wr (wr b 0 (bY (bU bits salt ls rs (nC z)))) (nC z*256) (bY (cE bits ls (bJ z ls.length) (2 ^ bits)))) hd (yj hz kZ s1 hh s2 ht)
 unfold kJ qX
 exact (dC (ag (aq aj az) (ag (aq az (ae 8)) (ag (aq aa (ak (ae 6000) (dO 256 (ak (ae 2) aj)))) (aq aa (ae 20000)))))) hl kZ this
theorem sE (ls:List aU) (salt:Nat) (rs:List Row) (k:Nat):(gS ls salt rs k).length=4:=(k9 salt (bg ls salt rs k) jg rfl rfl).2
theorem fold_at (salt:Nat):∀ (rs:List Row) (s:cF),(∀ r∈rs,r.1.length≤6)→(∀ v∈s.fs,v≤s.at_)→(rs.foldl (bz salt) s).at_≤s.at_+21*rs.length∧∀ v∈(rs.foldl (bz salt) s).fs,v≤(rs.foldl (bz salt) s).at_:=fun rs=>by
 induction rs with
 | nil =>
  exact fun s _ h=>⟨QV _,h⟩
 | cons r rs bA =>
  intro s hl h
  have h1:=hl r QB
  have e:(bz salt s r).at_=s.at_+15+r.1.length:=rfl
  have h2:=bA (bz salt s r) (fun q hq=>hl q (QD _ hq)) fun v hv=>by
   rw [e]
   change v∈(ite _ (s.fs.set _ _) s.fs) at hv
   split at hv
   ·rcases List.mem_or_eq_of_mem_set hv with hv|hv
    ·have:=h v hv;exact Cr h1 e this
    ·exact (ji (ag (aq az (ae 6)) (ag (aH a7 (ak (ak aj (ae 15)) az)) (ag (aH aa aj) (aq aa (ak (ak aj (ae 15)) az)))))) h1 e hv
   ·have:=h v hv;exact Cr h1 e this
  rw [RY,QC]
  rw [e] at h2
  exact ⟨(ji (ag (aq a7 (ae 6)) (ag (aq aa (ak (ak (ak aj (ae 15)) a7) (dO 21 az))) (aq aa (ak aj (dO 21 (ak az (ae 1)))))))) h1 h2.1,h2.2⟩
theorem oo {ls:List aU}{salt:Nat}{rs:List Row}(hR:bH rs) (h8:rs.length≤8) (k:Nat):∀ v∈gS ls salt rs k,v≤184:=fun v hv=>by
 have hm:∀ r∈bg ls salt rs k,r.1.length≤6:=fun r hr=>(hR.len r (jz hr).1).2
 have h:=fold_at salt (bg ls salt rs k) jg hm fun v hv=>by
  have:v=0:=List.eq_of_mem_replicate hv
  rw [this];exact RC _
 have h1:(cY salt (bg ls salt rs k)).at_≤16+21*(bg ls salt rs k).length:=h.1
 have h2:v≤(cY salt (bg ls salt rs k)).at_:=h.2 v hv
 have:=iH ls salt rs k
 exact (ji (ag (aq aj (ae 8)) (ag (aq az (ak (ae 16) (dO 21 a7))) (ag (aq aa az) (ag (aq a7 aj) (aq aa (ae 184))))))) h8 h1 h2 this
section
variable {X:Cx}{P:bj}{n:Nat}{sc:QM}{ρ af ay:Rw}{b ao b₂:Array UInt8}
structure FrI (salt bits:Nat) (ls:List aU) (rs:List Row) (z:Int) (ρ:Rw):Prop where
 v:lk ρ ("view":Qy)=some (.val (.ext 0))
 s:lk ρ ("salt":Qy)=some (.val (.int (salt:Int)))
 b:lk ρ ("bits":Qy)=some (.val (.int (bits:Int)))
 r:lk ρ ("rows":Qy)=some (.val (.list (rs.map a8)))
 z:lk ρ ("z":Qy)=some (.val (.int z))
 l:lk ρ ("leaves":Qy)=some (.val (.list (ls.map ba)))
theorem FrI.put {salt bits:Nat}{ls:List aU}{rs:List Row}{z:Int}(I:FrI salt bits ls rs z ρ) (x:Qy) (e:En) (h:x∉(["view","salt","bits","rows","z","leaves"]:List Qy)):FrI salt bits ls rs z (aS ρ x e):=by
 simp only [R1,RB,or_false,not_or] at h
 obtain ⟨h1,h2,h3,h4,h5,h6⟩:=h
 exact ⟨aR ((if_neg (Ne.symm h1)).trans I.v),aR ((if_neg (Ne.symm h2)).trans I.s),aR ((if_neg (Ne.symm h3)).trans I.b),aR ((if_neg (Ne.symm h4)).trans I.r),aR ((if_neg (Ne.symm h5)).trans I.z),aR ((if_neg (Ne.symm h6)).trans I.l)⟩
theorem rI (L:cP X P) {salt bits:Nat}{ls:List aU}{rs:List Row}{z:Int}(hl:ls.length≤8) (I:FrI salt bits ls rs z ρ) :
  S1 X (n+1) (aw (top 61)) ((bodyOf (top 61)).getD 1 (.Pass default)) ρ b (.next (aS ρ "order" (.val (.list ((bJ z ls.length).map aI)))) b):=by
 have el:(((ls.map ba).length:Nat):Int)=(ls.length:Int):=by rw [Qu]
 have eo:(bJ z ls.length).map aI=((range ((ls.length:Nat):Int).toNat).map fun (i:Nat)=>D.int (i:Int)).map fun d=>aI (4+(if z.fmod 2=0 then (jX d).toNat else ls.length-1-(jX d).toNat)):=by
  unfold bJ
  rw [Rk,Rk];rfl
 rw [eo]
 have hlen:((range ((ls.length:Nat):Int).toNat).map fun (i:Nat)=>D.int (i:Int)).length≤100000:=by
  rw [Qu,Q6];exact (Lq 2 0 [gk (aL aa)] (ag (aq aa (ae 8)) (ag (cu (aL aj) (aL aa)) (aq az (ae 100000))))) hl el
 refine S1.nj (own:=false) (fW:=["z","leaves"]) (mH (SE.jW (SE.nY (ai I.l) (by rw [Qu];exact C6 hl el)) el) ((cS (ag (aq aa (ae 8)) (ag (cu (aL aj) (aL aa)) (bM (xN (aJ (2 ^ 62))) (aL aa))))) hl el) ((cS (ag (aq aa (ae 8)) (ag (cu (aL aj) (aL aa)) (cU (aL aa) (aJ (2 ^ 62)))))) hl el)) av (.cons I.z (.cons I.l .nil)) (.cons I.z (.cons I.l .nil)) (bQ.all (fun ρ=>lk ρ ("z":Qy)=some (.val (.int z))∧lk ρ ("leaves":Qy)=some (.val (.list (ls.map ba)))) _ _ (fun d hd ρ hI=>?_) _ ⟨rfl,rfl⟩) hlen av (by rintro ⟨⟩ h;subst h;rfl)
 obtain ⟨i,hi,rfl⟩:=dj hd
 have pf:=R8.mp hi
 have hk:lk (aS ρ "k" (.val (.int (i:Int)))) ("k":Qy)=some (.val (.int (i:Int))):=aR rfl
 have hz:lk (aS ρ "k" (.val (.int (i:Int)))) ("z":Qy)=some (.val (.int z)):=aR hI.1
 have g5:lk (aS ρ "k" (.val (.int (i:Int)))) ("leaves":Qy)=some (.val (.list (ls.map ba))):=aR hI.2
 by_cases h:z.fmod 2=0
 ·have e:(z.fmod 2==0)=true:=by rw [h];rfl
  have ev:(4:Int)+(i:Int)=((4+(if z.fmod 2=0 then (jX (.int (i:Int))).toNat else ls.length-1-(jX (.int (i:Int))).toNat):Nat):Int):=by
   rw [if_pos h];show (4:Int)+(i:Int)=((4+((i:Int)).toNat:Nat):Int);exact @GD _
  exact ⟨_,.name av av,⟨hz,g5⟩,SE.jW (cZ aC (SE.qK (e▸cg (cK (ai hz) aC av) aC aQ.vU) (ai hk))) ev⟩
 ·have e:(z.fmod 2==0)=false:=beq_eq_false_iff_ne.mpr h
  have ev:(4:Int)+((ls.length:Int)-1-(i:Int))=((4+(if z.fmod 2=0 then (jX (.int (i:Int))).toNat else ls.length-1-(jX (.int (i:Int))).toNat):Nat):Int):=by
   rw [if_neg h];show (4:Int)+((ls.length:Int)-1-(i:Int))=((4+(ls.length-1-((i:Int)).toNat):Nat):Int);exact (Lq 3 1 [b9 aa (ae 1),gk (aL aj),b9 a7 cM,gk (aL aa)] (ag (cu (aL az) (aL aa)) (ag (aD aj oP) (ag (bI (cu bc (aJ 0))) (cu (cn (aJ 4) (fy (fy (aL aa) (aJ 1)) (aL aj))) (aL (ak (ae 4) gh))))))) el pf h
  exact ⟨_,.name av av,⟨hz,g5⟩,SE.jW (cZ aC (SE.kI (e▸cg (cK (ai hz) aC av) aC aQ.vU) (SE.sub (SE.sub (SE.jW (SE.nY (ai g5) (by rw [Qu];exact (ji (ag (aq aa (ae 8)) (ag (cu (aL aj) (aL aa)) (ag (cu (cn (aJ 4) (fy (fy (aL aa) (aJ 1)) (aL az))) (aL (ak (ae 4) a7))) (aq aa (ae 1000000)))))) hl el ev)) el) aC) (ai hk)))) ev⟩
end
noncomputable def gY (salt:Nat) (ls:List aU) (rs:List Row) (bad:List Nat) (looped:Option (Nat×Nat)):List D:=[.ext 0,.int (salt:Int),.list (ls.map ba),.list (rs.map a8),.list (bad.map aI),kc looped]
section
variable {X:Cx}{P:bj}{n:Nat}{sc:QM}{ρ af ay:Rw}{b ao b₂:Array UInt8}
structure NH (salt bits:Nat) (ls:List aU) (rs:List Row) (zz:Int) (tl pl at_:Nat) (ρ:Rw):Prop extends FrI salt bits ls rs zz ρ where
 o:lk ρ ("order":Qy)=some (.val (.list ((bJ zz ls.length).map aI)))
 t:lk ρ ("told":Qy)=some (.val (.int (tl:Int)))
 p:lk ρ ("place":Qy)=some (.val (.int (pl:Int)))
 a:lk ρ ("at":Qy)=some (.val (.int (at_:Int)))
set_option maxHeartbeats 1000000 in
theorem wL (L:cP X P) {salt bits tl pl at_:Nat}{ls:List aU}{rs:List Row}{z:Int}(hl:ls.length≤8) (hp:pl<ls.length) (ha:at_≤200) (hz:b.size≤20000)
  (T2:cb X (n+3) 483 (gY salt ls rs [] (some (pl,tl % 4))) (wr b (js ls z pl*256+at_) (bY (aZ at_ 2))) (.ok (.bool true) (wr b (js ls z pl*256+at_) (bY (aZ at_ 2)))))
  (T3:cb X (n+3) 483 (gY salt ls rs [pl] (some (pl,tl % 4))) (wr (wr b (js ls z pl*256+at_) (bY (aZ at_ 2))) (js ls z pl*256) (bY [gd z])) (.ok (.bool true) (wr (wr b (js ls z pl*256+at_) (bY (aZ at_ 2))) (js ls z pl*256) (bY [gd z]))))
  (I:NH salt bits ls rs z tl pl at_ ρ) :
  SS X (n+3) (aw (top 61)) ((bodyOf (top 61)).drop 7) ρ b (.ret (.bool true) ρ (wr (wr b (js ls z pl*256+at_) (bY (aZ at_ 2))) (js ls z pl*256) (bY [gd z]))):=by
 obtain ⟨f1,hT⟩:=L.fn 38 _ rfl
 obtain ⟨f2,hG⟩:=L.fn 29 _ rfl
 have em:((tl:Int)).fmod 4=((tl % 4:Nat):Int):=oi tl 4
 have ft:=gz z ls.length
 have Dg:=jS (z:=z) (m:=ls.length) hl
 have HJ:js ls z pl≤20:=iK (fun k hk=>by have:=Dg k hk;exact CB hl hp ft this) pl
 have g6:=v7 z
 have Lp:=iM (z.fdiv 48) (k:=4) av
 have OY:([.int 0,.int 1,.int 2,.int 255]:List D)[((z.fdiv 48).fmod 4).toNat]?=some (aI (gd z)):=by
  unfold gd
  generalize hk:((z.fdiv 48).fmod 4).toNat=k
  have:k<4:=by exact Cs Lp hk
  match k,this with
  | 0,_=>rfl
  | 1,_=>rfl
  | 2,_=>rfl
  | 3,_=>rfl
  | k+4,h=>exact absurd h (US.mpr (Nat.le_add_left 4 k))
 have LD:=I.o
 unfold js at *
 generalize bJ z ls.length=ord at *
 have eo:SE X (n+3) (aw (top 61)) (match (bodyOf (top 61)).getD 9 (.Pass default) with|.Expr (.Call _ [_,.BinOp a _ _ _,_] _ _) _=>a|_=>.Name "" default) ρ b (.int ((ord.getD pl 0:Nat):Int)) ρ b:=SE.gA (d:=.int ((ord.getD pl 0:Nat):Int)) (ai LD) (ai I.p) (@pb _) (yM hl hp ft) (getD_map (ju hp ft))
 have ei:((ord.getD pl 0:Nat):Int)*256+(at_:Int)=((ord.getD pl 0*256+at_:Nat):Int):=by exact @GC _ _
 have PB:((ord.getD pl 0:Nat):Int)*256=((ord.getD pl 0*256:Nat):Int):=by exact @DS _
 have s7:S1 X (n+3) (aw (top 61)) ((bodyOf (top 61)).getD 7 (.Pass default)) ρ b (.next ρ (wr b (ord.getD pl 0*256+at_) (bY (aZ at_ 2)))) :=
  dI (d:=.none) (SE.fU L.V L.Y (ai I.v) (au aC (au (SE.jW (cZ (dH (SE.gA (d:=.int ((ord.getD pl 0:Nat):Int)) (ai LD) (ai I.p) (@pb _) (yM hl hp ft) (getD_map (ju hp ft))) aC (mulR av av)) (ai I.a)) ei) (au (SE.gI (bp (L.gf 21 _ rfl) hG (au (ai I.a) (au aC aF)) (bE (m:=2) L av)) (dg _ _) (by rw [ax];decide)) aF))) (.tail _ (.tail _ (.tail _ (.head _)))) (gu L (Qx hz av) ((cS (ag (aq aj (ae 200)) (ag (aq aa (ae 20)) (aq (ak (cD aa 256) aj) (ae 100000))))) ha HJ) (by rw [aK,ax];decide) (by rw [aK,ax];decide)))
 have Bd:=dz b (ord.getD pl 0*256+at_) (bY (aZ at_ 2))
 rw [aK,ax] at Bd
 generalize wr b (ord.getD pl 0*256+at_) (bY (aZ at_ 2))=b2 at *
 have Qk:kc (some (pl,tl % 4))=.tup [.int (pl:Int),.int ((tl % 4:Nat):Int)]:=rfl
 have s8:S1 X (n+3) (aw (top 61)) ((bodyOf (top 61)).getD 8 (.Pass default)) ρ b2 (.next ρ b2) :=
  S1.kI (ST.bY (ST.not (ST.val (bp (L.gf 30 _ rfl) hT (au (ai I.v) (au (ai I.s) (au (ai I.l) (au (ai I.r) (au (dk aF) (au (SE.tup (au (ai I.p) (au (SE.jW (cK (ai I.t) aC av) em) aF))) aF)))))) T2))) rfl) bX
 have s9:S1 X (n+3) (aw (top 61)) ((bodyOf (top 61)).getD 9 (.Pass default)) ρ b2 (.next ρ (wr b2 (ord.getD pl 0*256) (bY [gd z]))) :=
  dI (d:=.none) (SE.fU L.V L.Y (ai I.v) (au aC (au (SE.jW (dH (SE.gA (d:=.int ((ord.getD pl 0:Nat):Int)) (ai LD) (ai I.p) (@pb _) (yM hl hp ft) (getD_map (ju hp ft))) aC (mulR av av)) PB) (au (SE.gI (l:=[gd z]) (dk (au (SE.gA (d:=aI (gd z)) (dk (au aC (au aC (au aC (au aC aF))))) (cK (gK (ai I.z) aC av av) aC av) Lp.1 ((wb (ag (dB (bM (aJ 0) bc) (cU bc (aJ 4))) (cU bc (aJ (2 ^ 63))))) Lp) OY) aF)) (by intro k hk;rw [bq hk];exact g6.2) (by rw [Sl];decide)) aF))) (.tail _ (.tail _ (.tail _ (.head _)))) (gu L ((Lq 4 0 [oQ az (ak (ak (cD a7 256) aj) (ae 2))] (ag (aq aj (ae 200)) (ag (aq az (ae 20000)) (ag (aq a7 (ae 20)) (ag (aq aa (ak cM (ae 256))) (aq aa (ae 100000))))))) ha hz HJ Bd) (DR HJ) (by rw [aK];exact Nat.zero_lt_one) (by rw [aK];exact (by decide:1≤1000))))
 generalize wr b2 (ord.getD pl 0*256) (bY [gd z])=b3 at *
 have NQ:S1 X (n+3) (aw (top 61)) ((bodyOf (top 61)).getD 10 (.Pass default)) ρ b3 (.ret (.bool true) ρ b3) :=
  bN (bp (L.gf 30 _ rfl) hT (au (ai I.v) (au (ai I.s) (au (ai I.l) (au (ai I.r) (au (dk (au (ai I.p) aF)) (au (SE.tup (au (ai I.p) (au (SE.jW (cK (ai I.t) aC av) em) aF))) aF)))))) T3)
 exact aG s7 (aG s8 (aG s9 (bF NQ)))
set_option maxHeartbeats 1000000 in
theorem mO (L:cP X P) {salt bits:Nat}{rs:List Row}{y z:Int}(hb:bits≤3) (hR:bH rs) (h8:rs.length≤8) (h1:0<rs.length) (hz:b.size≤6000)
  (T:∀ ls,bW bits ls→cb X (n+4) 483 (gY salt ls rs [] none) (kJ salt bits ls rs z b) (.ok (.bool true) (kJ salt bits ls rs z b)) ∧
   cb X (n+4) 483 (gY salt ls rs [] (some (eY salt ls rs z,eI salt rs z % 4))) (uw salt bits ls rs z b) (.ok (.bool true) (uw salt bits ls rs z b)) ∧
   cb X (n+4) 483 (gY salt ls rs [eY salt ls rs z] (some (eY salt ls rs z,eI salt rs z % 4))) (Az salt bits ls rs z b) (.ok (.bool true) (Az salt bits ls rs z b))) :
  ∃ b',b'.size≤30000∧cb X (n+5) 488 [.ext 0,.int (salt:Int),.int (bits:Int),.list (rs.map a8),.int y,.int z] b (.ok (.bool true) b'):=by
 obtain ⟨fd,hF⟩:=L.fn 39 _ rfl
 obtain ⟨f0,hV⟩:=L.fn 32 _ rfl
 obtain ⟨f1,hT⟩:=L.fn 38 _ rfl
 obtain ⟨f2,hA⟩:=L.fn 35 _ rfl
 obtain ⟨f3,hZ⟩:=L.fn 15 _ rfl
 obtain ⟨f4,hP⟩:=L.fn 33 _ rfl
 obtain ⟨ls,hI,hC⟩:=qH (n:=n+2) (b:=b) L hb (x:=y)
 obtain ⟨T1,T2,T3⟩:=T ls hI
 have kZ:2 ^ bits≤8:=by
  have:(2:Nat) ^ bits≤2 ^ 3:=Q3 av hb
  exact this
 have Es:ls.length≤8:=Qx hI.len kZ
 have g5:=hI.ok hb
 have Fv:∀ l∈ls,l.1<256:=fun l hl=>by have:=hI.dep l hl;exact yQ hb this
 have ft:=gz z ls.length
 have Dg:∀ k∈bJ z ls.length,k≤20:=fun k hk=>by have:=jS (z:=z) Es k hk;exact (dC (ag (aq aj (ae 8)) (ag (aH az aj) (ag (dB (aq (ae 4) aa) (aD aa (ak (ae 4) aj))) (aq aa (ae 20)))))) Es ft this
 have vD:=qp z
 have Df:=rN z h1
 have H0:=w9 (n:=n) (b:=b) (salt:=salt) L g5 Es Fv hR h8 hb ft Dg (tb:=nC z) (vo vD) hz
 have Be:(kJ salt bits ls rs z b).size≤20000:=sC (salt:=salt) (z:=z) hI hb hR h8 hz
 have KA:=eH (mK rs z).1 salt
 have vF:eY salt ls rs z<ls.length:=by
  unfold eY a6
  exact List.findIdx_lt_length.mpr (Sg.mp (g5.all _ KA))
 have lB:=sE ls salt rs (eY salt ls rs z)
 have zF:lh salt ls rs z≤184:=iK (oo hR h8 (eY salt ls rs z)) _
 have Eh:=dz (kJ salt bits ls rs z b) (js ls z (eY salt ls rs z)*256+lh salt ls rs z) (bY (aZ (lh salt ls rs z) 2))
 have HJ:js ls z (eY salt ls rs z)≤20:=iK Dg _
 rw [aK,ax] at Eh
 have xf:=dz (uw salt bits ls rs z b) (js ls z (eY salt ls rs z)*256) (bY [gd z])
 rw [aK,Sl] at xf
 change cb X (n+4) 464 _ b (.ok (.list ((range' 0 ls.length).map (cz ls salt rs))) (kJ salt bits ls rs z b)) at H0
 change (uw salt bits ls rs z b).size≤_ at Eh
 change (Az salt bits ls rs z b).size≤_ at xf
 have H4:=fun ρ I=>wL (n:=n+1) (b:=kJ salt bits ls rs z b) (bits:=bits) (ρ:=ρ) (at_:=lh salt ls rs z) L Es vF (Qx zF av) Be T2 T3 I
 have e3:wr (wr (kJ salt bits ls rs z b) (js ls z (eY salt ls rs z)*256+lh salt ls rs z) (bY (aZ (lh salt ls rs z) 2))) (js ls z (eY salt ls rs z)*256) (bY [gd z])=Az salt bits ls rs z b:=rfl
 rw [e3] at H4
 refine ⟨Az salt bits ls rs z b,nF Be zF HJ Eh xf,?_⟩
 have fin:=fun {d:D}{b':Array UInt8}{ρ':Rw} h=>bV (X:=X) (n:=n+4) (b:=b) (d:=d) (b':=b') (ρ':=ρ') hF (ds:=[.ext 0,.int (salt:Int),.int (bits:Int),.list (rs.map a8),.int y,.int z]) rfl av h
 have J0:lk ((["view","salt","bits","rows","y","z"]:List Qy).zip (([.ext 0,.int (salt:Int),.int (bits:Int),.list (rs.map a8),.int y,.int z]:List D).map En.val)) ("y":Qy)=some (.val (.int y)):=rfl
 have B0:lk ((["view","salt","bits","rows","y","z"]:List Qy).zip (([.ext 0,.int (salt:Int),.int (bits:Int),.list (rs.map a8),.int y,.int z]:List D).map En.val)) ("bits":Qy)=some (.val (.int (bits:Int))):=rfl
 have I1:FrI salt bits ls rs z (aS ((["view","salt","bits","rows","y","z"]:List Qy).zip (([.ext 0,.int (salt:Int),.int (bits:Int),.list (rs.map a8),.int y,.int z]:List D).map En.val)) "leaves" (.val (.list (ls.map ba)))):=⟨aR rfl,aR rfl,aR rfl,aR rfl,aR rfl,aR rfl⟩
 generalize (["view","salt","bits","rows","y","z"]:List Qy).zip (([.ext 0,.int (salt:Int),.int (bits:Int),.list (rs.map a8),.int y,.int z]:List D).map En.val)=ki at *
 have s0:S1 X (n+4) (aw (top 61)) ((bodyOf (top 61)).getD 0 (.Pass default)) ki b (.next (aS ki "leaves" (.val (.list (ls.map ba)))) b) :=
  cj (bp (L.gf 24 _ rfl) hV (au (ai B0) (au (ai J0) aF)) hC)
 generalize aS ki "leaves" (.val (.list (ls.map ba)))=ek at *
 have s1:=rI (n:=n+3) (b:=b) L Es I1
 have I2:=I1.put "order" (.val (.list ((bJ z ls.length).map aI))) av
 have o2:lk (aS ek "order" (.val (.list ((bJ z ls.length).map aI)))) ("order":Qy)=some (.val (.list ((bJ z ls.length).map aI))):=aR rfl
 generalize aS ek "order" (.val (.list ((bJ z ls.length).map aI)))=ej at *
 have s2:S1 X (n+4) (aw (top 61)) ((bodyOf (top 61)).getD 2 (.Pass default)) ej b (.next (aS ej "firsts" (.val (.list ((range' 0 ls.length).map (cz ls salt rs))))) (kJ salt bits ls rs z b)) :=
  cj (bp (L.gf 27 _ rfl) hA (au (ai I2.v) (au (ai I2.s) (au (ai I2.b) (au (ai I2.l) (au (ai o2) (au (SE.jW (cZ aC (cK (gK (ai I2.z) aC av av) aC av)) vD.1) (au (ai I2.r) aF))))))) H0)
 have I3:=I2.put "firsts" (.val (.list ((range' 0 ls.length).map (cz ls salt rs)))) av
 have f3:lk (aS ej "firsts" (.val (.list ((range' 0 ls.length).map (cz ls salt rs))))) ("firsts":Qy)=some (.val (.list ((range' 0 ls.length).map (cz ls salt rs)))):=aR rfl
 have o3:lk (aS ej "firsts" (.val (.list ((range' 0 ls.length).map (cz ls salt rs))))) ("order":Qy)=some (.val (.list ((bJ z ls.length).map aI))):=aR o2
 generalize aS ej "firsts" (.val (.list ((range' 0 ls.length).map (cz ls salt rs))))=gr at *
 have s3:S1 X (n+4) (aw (top 61)) ((bodyOf (top 61)).getD 3 (.Pass default)) gr (kJ salt bits ls rs z b) (.next gr (kJ salt bits ls rs z b)) :=
  S1.kI (ST.bY (ST.not (ST.val (bp (L.gf 30 _ rfl) hT (au (ai I3.v) (au (ai I3.s) (au (ai I3.l) (au (ai I3.r) (au (dk aF) (au SE.none aF)))))) T1))) rfl) bX
 have JE:(((rs.map a8).length:Nat):Int)=(rs.length:Int):=by rw [Qu]
 have LR:(rs.map a8)[((pM z rs.length:Nat):Int).toNat]?=some (.tup [.str (bR (mK rs z).1),.int ((mK rs z).2:Int)]):=by
  rw [QW,QU,QI Df.2]
  unfold mK
  rw [Qw,QI Df.2];rfl
 have KP:=Df.1
 have Oo:=Df.2
 have IA:eI salt rs z=aT (mK rs z).1 salt:=rfl
 have JD:eY salt ls rs z=a6 ls (eI salt rs z):=rfl
 have PD:lh salt ls rs z=(gS ls salt rs (eY salt ls rs z)).getD (eI salt rs z % 4) 0:=rfl
 rw [← IA] at KA
 have Iz:=jP (mK rs z).1 salt
 rw [← IA] at Iz
 generalize HG:mK rs z=Fh at *
 generalize pM z rs.length=pk at *
 generalize kJ salt bits ls rs z b=b1 at *
 have s4:S1 X (n+4) (aw (top 61)) ((bodyOf (top 61)).getD 4 (.Pass default)) gr b1 (.next (aS gr "told" (.val (.int (eI salt rs z:Int)))) b1) :=
  cj (SE.jW (bp (L.gf 11 _ rfl) hZ (au (SE.n5 (ds:=[.str (bR Fh.1),.int (Fh.2:Int)]) (i:=0) (d:=.str (bR Fh.1)) (SE.gA (d:=.tup [.str (bR Fh.1),.int (Fh.2:Int)]) (ai I3.r) (SE.jW (cK (gK (ai I3.z) aC av av) (SE.jW (SE.nY (ai I3.r) (by rw [Qu];exact (cS (ag (aq aa (ae 8)) (ag (aD (ae 0) aa) (ag (cu (aL aj) (aL aa)) (aq aa (ae 1000000)))))) h8 h1 JE)) JE) ((cS (ag (aq aa (ae 8)) (ag (aD (ae 0) aa) (ag (cu (aL aj) (aL aa)) (bI (cu (aL aa) (aJ 0))))))) h8 h1 JE)) KP) (@pb _) ((Lq 3 1 [] (ag (aq aj (ae 8)) (ag (aD (ae 0) aj) (ag (cu (aL az) (aL aj)) (ag (dB (cu bc (aL aa)) (aD aa aj)) (cU (aL aa) (aJ (2 ^ 63)))))))) h8 h1 JE Df) LR) aC av av rfl) (au (ai I3.s) aF)) (fh (name:=bR Fh.1) L)) Iz)
 generalize eI salt rs z=tl at *
 have I4:=I3.put "told" (.val (.int (tl:Int))) av
 have t4:lk (aS gr "told" (.val (.int (tl:Int)))) ("told":Qy)=some (.val (.int (tl:Int))):=aR rfl
 have f4:lk (aS gr "told" (.val (.int (tl:Int)))) ("firsts":Qy)=some (.val (.list ((range' 0 ls.length).map (cz ls salt rs)))):=aR f3
 have o4:lk (aS gr "told" (.val (.int (tl:Int)))) ("order":Qy)=some (.val (.list ((bJ z ls.length).map aI))):=aR o3
 generalize aS gr "told" (.val (.int (tl:Int)))=rn at *
 have s5:S1 X (n+4) (aw (top 61)) ((bodyOf (top 61)).getD 5 (.Pass default)) rn b1 (.next (aS rn "place" (.val (.int (eY salt ls rs z:Int)))) b1):=by
  rw [JD]
  exact cj (bp (L.gf 25 _ rfl) hP (au (ai I4.l) (au (ai t4) aF)) (fH (told:=tl) L ((cS (ag (aq aa (ae 8)) (ag (aH aj aa) (aq aa (ae 1000))))) Es ft) g5.dep (g5.all _ KA)))
 generalize eY salt ls rs z=pl at *
 have I5:=I4.put "place" (.val (.int (pl:Int))) av
 have p5:lk (aS rn "place" (.val (.int (pl:Int)))) ("place":Qy)=some (.val (.int (pl:Int))):=aR rfl
 have t5:lk (aS rn "place" (.val (.int (pl:Int)))) ("told":Qy)=some (.val (.int (tl:Int))):=aR t4
 have f5:lk (aS rn "place" (.val (.int (pl:Int)))) ("firsts":Qy)=some (.val (.list ((range' 0 ls.length).map (cz ls salt rs)))):=aR f4
 have o5:lk (aS rn "place" (.val (.int (pl:Int)))) ("order":Qy)=some (.val (.list ((bJ z ls.length).map aI))):=aR o4
 generalize aS rn "place" (.val (.int (pl:Int)))=xF at *
 have em:((tl:Int)).fmod 4=((tl % 4:Nat):Int):=oi tl 4
 have Qb:tl % 4<4:=UB _ av
 have PC:((range' 0 ls.length).map (cz ls salt rs))[((pl:Nat):Int).toNat]?=some (.list ((gS ls salt rs pl).map aI)):=by
  rw [QW,QU,List.getElem?_range' (by exact (ji (ag (aH az aj) (ag (aD aa aj) (ag (aH aa a7) (aD aa aj))))) ft vF JD),Sk,Nat.one_mul];rfl
 have s6:S1 X (n+4) (aw (top 61)) ((bodyOf (top 61)).getD 6 (.Pass default)) xF b1 (.next (aS xF "at" (.val (.int (lh salt ls rs z:Int)))) b1):=by
  rw [PD]
  exact cj (SE.gA (d:=.int (((gS ls salt rs pl).getD (tl % 4) 0:Nat):Int)) (SE.gA (d:=.list ((gS ls salt rs pl).map aI)) (ai f5) (ai p5) ((cS (ag (aH aa aj) (bM (aJ 0) (aL aa)))) JD) ((ji (ag (aq aj (ae 8)) (ag (aH az aj) (ag (aD aa aj) (ag (aH aa a7) (cU (aL aa) (aJ (2 ^ 63)))))))) Es ft vF JD) PC) (SE.jW (cK (ai t5) aC av) em) ((Lq 2 2 [fO aa 4] (ag (aH aa aj) (ag (cu bc (aL aa)) (ag (cu mW (aL a7)) (bM (aJ 0) (aL a7)))))) IA Iz em) ((Lq 2 2 [fO aa 4] (ag (aH aa aj) (ag (cu bc (aL aa)) (ag (cu mW (aL a7)) (cU (aL a7) (aJ (2 ^ 63))))))) IA Iz em) (getD_map ((Lq 3 2 [fO aa 4] (ag (aH aa az) (ag (cu bc (aL aa)) (ag (aH aj (ae 4)) (ag (cu mW (aL cM)) (aD cM aj)))))) IA Iz lB em)))
 have I6:=I5.put "at" (.val (.int (lh salt ls rs z:Int))) av
 have J:NH salt bits ls rs z tl pl (lh salt ls rs z) (aS xF "at" (.val (.int (lh salt ls rs z:Int)))):=⟨I6,aR o5,aR t5,aR p5,aR rfl⟩
 exact fin (aG s0 (aG s1 (aG s2 (aG s3 (aG s4 (aG s5 (aG s6 (H4 _ J))))))))
end
noncomputable def kN (x:Int):Nat:=((x.fdiv 16).fmod 4294967296).toNat
theorem yr (x:Int):(x.fdiv 16).fmod 4294967296=(kN x:Int)∧kN x<4294967296:=by
 have:=iM (x.fdiv 16) (k:=4294967296) av
 unfold kN
 exact (Lq 0 1 [gk bc] (ag (dB (bM (aJ 0) bc) (cU bc (aJ 4294967296))) (dB (cu bc (aL aa)) (aD aa (ae 4294967296))))) this
noncomputable def sV (x:Int):Nat:=((x.fdiv 4).fmod 4).toNat
theorem z7 (x:Int):(x.fdiv 4).fmod 4=(sV x:Int)∧sV x≤3:=by
 have:=iM (x.fdiv 4) (k:=4) av
 unfold sV
 exact (Lq 0 1 [gk bc] (ag (dB (bM (aJ 0) bc) (cU bc (aJ 4))) (dB (cu bc (aL aa)) (aq aa (ae 3))))) this
noncomputable def mS (z:Int):Nat:=([0,3,255]:List Nat).getD ((z.fdiv 192).fmod 3).toNat 0
theorem Bt (z:Int):(mS z≠1∧mS z≠2)∧mS z<256∧([.int 0,.int 3,.int 255]:List D)[((z.fdiv 192).fmod 3).toNat]?=some (aI (mS z))∧0≤(z.fdiv 192).fmod 3∧(z.fdiv 192).fmod 3<3:=by
 have hm:=iM (z.fdiv 192) (k:=3) av
 unfold mS
 generalize hk:((z.fdiv 192).fmod 3).toNat=k
 have:k<3:=by exact (Lq 1 1 [gk bc] (ag (dB (bM (aJ 0) bc) (cU bc (aJ 3))) (ag (aH aj aa) (aD aa (ae 3))))) hm hk
 match k,this with
 | 0,_=>exact ⟨by decide,by decide,rfl,hm⟩
 | 1,_=>exact ⟨by decide,by decide,rfl,hm⟩
 | 2,_=>exact ⟨by decide,by decide,rfl,hm⟩
 | k+3,h=>exact absurd h (US.mpr (Nat.le_add_left 3 k))
structure ND (x y z:Int) (salt:Nat) (rs:List Row) (ρ:Rw):Prop where
 x:lk ρ ("x":Qy)=some (.val (.int x))
 y:lk ρ ("y":Qy)=some (.val (.int y))
 z:lk ρ ("z":Qy)=some (.val (.int z))
 r:lk ρ ("rows":Qy)=some (.val (.list (rs.map a8)))
 s:lk ρ ("salt":Qy)=some (.val (.int (salt:Int)))
 v:lk ρ ("view":Qy)=some (.val (.ext 0))
section
variable {X:Cx}{P:bj}{n:Nat}{sc:QM}{ρ af ay:Rw}{b ao b₂:Array UInt8}
theorem vy {salt:Nat}{rs:List Row}(hR:bH rs) (h8:rs.length≤8):0<(jY salt rs).length∧(jY salt rs).length≤127∧∀ c∈jY salt rs,c<256:=by
 have hl:=sD rs 6 fun r hr=>(hR.len r hr).2
 refine ⟨by unfold jY;simp only [QA,ax,QC,QP];exact @Hd _,by unfold jY;simp only [QA,ax,QC,QP];omega,fun c hc=>?_⟩
 unfold jY at hc
 simp only [Sh,QO] at hc
 rcases hc with ((hc|hc)|hc)|hc
 ·exact (dW (ag (aH aa (ae 1)) (aD aa (ae 256)))) hc
 ·exact dg _ _ c hc
 ·exact dg _ _ c hc
 ·obtain ⟨w,hw,hc⟩:=List.mem_flatten.mp hc
  obtain ⟨r,hr,rfl⟩:=dj hw
  have h1:=(hR.len r hr).2
  unfold dJ encM at hc
  simp only [Sh,QO] at hc
  rcases hc with (hc|hc)|hc
  ·exact (cS (ag (aq aj (ae 6)) (ag (aH aa aj) (aD aa (ae 256))))) h1 hc
  ·have:=ir (hR.sgn r hr c hc);exact A4 this
  ·exact dg _ _ c hc
theorem ur {n j:Nat}(f:Nat→UInt8) (h:j<n):((range n).map f).getD j 0=f j:=by
 rw [Qw,QU,Tn h,Vq,Option.getD_some]
theorem ni (b:Array UInt8) (k:Nat) {j:Nat}(h:j<256):(eU b k).getD j 0=fo b.toList (k*256+j):=by
 unfold eU
 rw [kO]
 exact ur (fun i=>fo b.toList (k*256+i)) h
theorem BE (b:Array UInt8) (k:Nat) (hk:k<256):e8 (wr b 0 (bY [k])) 0=k:=by
 unfold e8
 rw [ni _ _ av,qC,if_pos ⟨RC _,by rw [aK];exact Nat.zero_lt_one⟩]
 exact eJ hk
set_option maxHeartbeats 1000000 in
theorem r5 (L:cP X P) {x y z:Int}{salt:Nat}{rs:List Row}(hz:b.size≤30000) (I:ND x y z salt rs ρ) :
  SS X (n+8) (aw (top 62)) ((bodyOf (top 62)).drop 5) ρ b (.ret (.bool true) ρ (wr b 0 (bY [mS z]))):=by
 obtain ⟨f1,Pg⟩:=L.fn 36 _ rfl
 obtain ⟨f2,Pp⟩:=L.fn 37 _ rfl
 have he:=Bt z
 have Jx:=BE b (mS z) he.2.1
 have hsz:=dz b 0 (bY [mS z])
 rw [aK,Sl] at hsz
 have s5:S1 X (n+8) (aw (top 62)) ((bodyOf (top 62)).getD 5 (.Pass default)) ρ b (.next ρ (wr b 0 (bY [mS z]))) :=
  dI (d:=.none) (SE.fU L.V L.Y (ai I.v) (au aC (au aC (au (SE.gI (l:=[mS z]) (dk (au (SE.gA (d:=aI (mS z)) (dk (au aC (au aC (au aC aF)))) (cK (gK (ai I.z) aC av av) aC av) he.2.2.2.1 (Int.lt_trans he.2.2.2.2 av) he.2.2.1) aF)) (by intro k hk;rw [bq hk];exact he.2.1) (by rw [Sl];decide)) aF))) (.tail _ (.tail _ (.tail _ (.head _)))) (gu (i:=0) L (Qx hz av) @yT (by rw [aK];exact Nat.zero_lt_one) (by rw [aK];exact (by decide:1≤1000))))
 generalize wr b 0 (bY [mS z])=b3 at *
 have Hw:b3.size≤1000000:=(Lq 2 0 [oQ aj (ak (ae 0) (ae 1))] (ag (aq aj (ae 30000)) (ag (aq aa (ak az (ae 256))) (aq aa (ae 1000000))))) hz hsz
 have hx:e8 b3 0≠1∧e8 b3 0≠2:=by rw [Jx];exact he.1
 have hq:("q":Qy)=bR [113]:=by decide +kernel
 have OO:cb X (n+8) 471 [.ext 0,.str "q"] b3 (.ok (.str br) b3):=by
  rw [hq]
  exact gR (n:=n+7) (a:=.exc) L (tm (n:=n+1) L Hw hx)
 have O1:cb X (n+8) 478 [.ext 0] b3 (.ok (.str br) b3):=jT (n:=n+7) (rs:=none) L (we (n:=n+1) L Hw hx)
 have ee:QG.eqv (.list [.str br,.str br]) (.list [.str br,.str br])=true:=by
  have:=U2 (.list [.str br,.str br]) (by
   simp only [QG.canLay0,QG.canLayAll0,fv,Bool.and_self])
  exact this
 have Ff:shaped (.list [.str br,.str br])=true:=by
  unfold shaped
  simp only [QG.canLay0,QG.canLayAll0,fv,Bool.and_self,QG.depth,QG.depthAll,Bool.true_and]
  decide
 have ec:("corrupt":Qy)=br:=rfl
 exact aG s5 (bF (bN (SE.cmp (dk (au (bp (L.gf 28 _ rfl) Pg (au (ai I.v) (au SE.str aF)) OO) (au (bp (L.gf 29 _ rfl) Pp (au (ai I.v) aF) O1) aF))) (dk (au SE.str (au SE.str aF))) (ee▸aQ.FH (.list [.str br,.str br]) (.list [.str br,.str br]) rfl rfl Ff Ff))))
end
theorem N0 {α:Type}{P:Qy→α→Prop}:∀ u e,lk ([]:List (Qy×α)) u=some e→P u e:=fun _ _ h=>nomatch h
theorem Fo {α:Type}{P:Qy→α→Prop}{y:Qy}{a:α}{r:List (Qy×α)} (h:P y a) (k:∀ u e,lk r u=some e→P u e):∀ u e,lk ((y,a)::r) u=some e→P u e:=fun u e z=>by
 by_cases q:u=y
 ·rw [q];cases (if_pos q).symm.trans z;exact h
 ·exact k u e ((if_neg q).symm.trans z)
section
variable {X:Cx}{P:bj}{n:Nat}{sc:QM}{ρ af ay:Rw}{b ao b₂:Array UInt8}
noncomputable def E8 (X:Cx) (n:Nat):Prop:=∀ salt rs,salt<4294967296→bH rs→rs.length≤8→cb X n 483 (gY salt [(0,0)] rs [] none) (wr #[] 0 (bY (jY salt rs))) (.ok (.bool true) (wr #[] 0 (bY (jY salt rs))))
noncomputable def E9 (X:Cx) (n:Nat):Prop:=∀ salt bits rs z ls,salt<4294967296→bits≤3→bH rs→rs.length≤8→0<rs.length→bW bits ls →
 cb X n 483 (gY salt ls rs [] none) (kJ salt bits ls rs z #[]) (.ok (.bool true) (kJ salt bits ls rs z #[])) ∧
 cb X n 483 (gY salt ls rs [] (some (eY salt ls rs z,eI salt rs z % 4))) (uw salt bits ls rs z #[]) (.ok (.bool true) (uw salt bits ls rs z #[])) ∧
 cb X n 483 (gY salt ls rs [eY salt ls rs z] (some (eY salt ls rs z,eI salt rs z % 4))) (Az salt bits ls rs z #[]) (.ok (.bool true) (Az salt bits ls rs z #[]))
set_option maxHeartbeats 1000000 in
theorem zm (L:cP X P) (HM:E8 X (n+8)) (HF:E9 X (n+7)) {x y z:Int}{salt:Nat}{rs:List Row}(hs:salt<4294967296) (hR:bH rs) (h8:rs.length≤8) (h1:0<rs.length) (I:ND x y z salt rs ρ) :
  ∃ b',SS X (n+8) (aw (top 62)) ((bodyOf (top 62)).drop 4) ρ #[] (.ret (.bool true) ρ b'):=by
 obtain ⟨f1,hT⟩:=L.fn 38 _ rfl
 obtain ⟨f2,Pd⟩:=L.fn 31 _ rfl
 obtain ⟨f3,O8⟩:=L.fn 39 _ rfl
 have Ku:(#[]:Array UInt8).size≤6000:=RC _
 by_cases h:x.fmod 4=0
 ·have e:(x.fmod 4==0)=true:=by rw [h];rfl
  have hm:=vy (salt:=salt) hR h8
  have T:=HM salt rs hs hR h8
  have hsz:=dz #[] 0 (bY (jY salt rs))
  rw [aK] at hsz
  have OB:=r4 (n:=n+6) (b:=#[]) (salt:=salt) (rs:=rs) L ((dW (ag (aq aa (ae 8)) (ag (aD (ae 0) aa) (aq aa (ae 100))))) h8 h1) fun r hr=>by have:=(hR.len r hr).2;exact Qx this av
  have s0:S1 X (n+8) (aw (top 62)) ((match (bodyOf (top 62)).getD 4 (.Pass default) with|.If _ b _ _=>b|_=>[]).getD 0 (.Pass default)) ρ #[] (.next ρ (wr #[] 0 (bY (jY salt rs)))) :=
   dI (d:=.none) (SE.fU L.V L.Y (ai I.v) (au aC (au aC (au (SE.gI (bp (L.gf 23 _ rfl) Pd (au (ai I.s) (au (ai I.r) aF)) OB) hm.2.2 (Qx hm.2.1 av)) aF))) (.tail _ (.tail _ (.tail _ (.head _)))) (gu (i:=0) L (Qx Ku av) @yT (by rw [aK];exact hm.1) (by rw [aK];exact Qx hm.2.1 av)))
  generalize wr #[] 0 (bY (jY salt rs))=b1 at *
  have Lr:b1.size≤30000:=(Lq 3 0 [oQ aj (ak (ae 0) az)] (ag (aq aj (ae 6000)) (ag (aq az (ae 127)) (ag (aq aa (ak a7 (ae 256))) (aq aa (ae 30000)))))) Ku hm.2.1 hsz
  have s1:S1 X (n+8) (aw (top 62)) ((match (bodyOf (top 62)).getD 4 (.Pass default) with|.If _ b _ _=>b|_=>[]).getD 1 (.Pass default)) ρ b1 (.next ρ b1) :=
   S1.kI (ST.bY (ST.not (ST.val (bp (L.gf 30 _ rfl) hT (au (ai I.v) (au (ai I.s) (au (dk (au (SE.tup (au aC (au aC aF))) aF)) (au (ai I.r) (au (dk aF) (au SE.none aF)))))) T))) rfl) bX
  exact ⟨_,aG (S1.qK (e▸cg (cK (ai I.x) aC av) aC aQ.vU) (aG s0 (aG s1 bX))) (r5 L Lr I)⟩
 ·have e:(x.fmod 4==0)=false:=beq_eq_false_iff_ne.mpr h
  have Lo:=z7 x
  obtain ⟨b',FC,hC⟩:=mO (n:=n+3) (b:=#[]) (bits:=sV x) (y:=y) (z:=z) L Lo.2 hR h8 h1 Ku fun ls hI=>HF salt (sV x) rs z ls hs Lo.2 hR h8 h1 hI
  have s1:S1 X (n+8) (aw (top 62)) ((match (bodyOf (top 62)).getD 4 (.Pass default) with|.If _ _ o _=>o|_=>[]).getD 0 (.Pass default)) ρ #[] (.next ρ b') :=
   S1.kI (ST.bY (ST.not (ST.val (bp (L.gf 31 _ rfl) O8 (au (ai I.v) (au (ai I.s) (au (SE.jW (cK (gK (ai I.x) aC av av) aC av) Lo.1) (au (ai I.r) (au (ai I.y) (au (ai I.z) aF)))))) hC))) rfl) bX
  exact ⟨_,aG (S1.kI (e▸cg (cK (ai I.x) aC av) aC aQ.vU) (aG s1 bX)) (r5 L FC I)⟩
theorem SE.LK (L:Lib0 X) (k:Nat) {x:Qy}{i:Int}{pos:Rd}(hx:oh[k]?=some (x,i)) (hk:autoParam (sc.names.lookup x=some .globalImplicit) bG) (hn:autoParam (okN x=true) bG):SE X n sc (.Name x pos) ρ b (.int i) ρ b:=by
 obtain ⟨t,ht⟩:=L.gi k _ hx
 exact SE.Iw ht hk hn
set_option maxHeartbeats 2000000 in
theorem zo (L0:Lib0 (X.cB cJ)) (LN:uQ (X.cB cJ)) (L:∀ P,cP (X.cB (e9 X.prog X.w P)) P) (HM:∀ P,cP (X.cB (e9 X.prog X.w P)) P→E8 (X.cB (e9 X.prog X.w P)) (n+8)) (HF:∀ P,cP (X.cB (e9 X.prog X.w P)) P→E9 (X.cB (e9 X.prog X.w P)) (n+7)) {ns:List Int}(hn:ns.length≤63) :
  xK X (n+8) (aw (top 62)) (bodyOf (top 62)) ((["script"]:List Qy).zip (([.list (ns.map D.int)]:List D).map En.val)):=by
 obtain ⟨f1,hC⟩:=L0.fn 28 _ rfl
 obtain ⟨f2,O6⟩:=L0.fn 30 _ rfl
 have PA:lN (ns.map D.int) none (some 63)=ns.map D.int:=by
  unfold lN
  simp only [Option.elim]
  rw [U9,Nat.sub_zero]
  refine RX ?_
  rw [show (63:Int)=((63:Nat):Int) from rfl,SQ,Qu]
  exact Nat.le_min.mpr ⟨hn,QV _⟩
 generalize Ks:(["script"]:List Qy).zip (([.list (ns.map D.int)]:List D).map En.val)=ki
 have k0:lk ki ("script":Qy)=some (.val (.list (ns.map D.int))):=by subst Ks;rfl
 have s0:S1 (X.cB cJ) (n+8) (aw (top 62)) ((bodyOf (top 62)).getD 0 (.Pass default)) ki #[] (.next (aS ki "script" (.val (.list (ns.map D.int)))) #[]) :=
  cj (SE.wu (SE.DH (ai k0) .none (.some aC) (by rw [Qu];exact Qx hn av)) PA)
 have k1:lk (aS ki "script" (.val (.list (ns.map D.int)))) ("script":Qy)=some (.val (.list (ns.map D.int))):=aR rfl
 generalize pe:aS ki "script" (.val (.list (ns.map D.int)))=ek at *
 have s1:S1 (X.cB cJ) (n+8) (aw (top 62)) ((bodyOf (top 62)).getD 1 (.Pass default)) ek #[] (.next (stores ek ((["x","y","z"]:List Qy).reverse.zip ([.val (.int (jI ns 0)),.val (.int (jI ns 9)),.val (.int (jI ns 10))]:List En).reverse)) #[]) :=
  S1.gP (i4.cons (SF.ip (bp (L0.gf 20 _ rfl) hC (au (ai k1) (au aC aF)) (kq (n:=n+7) (k:=0) L0 (Qx hn av) av))) (i4.cons (SF.ip (bp (L0.gf 20 _ rfl) hC (au (ai k1) (au aC aF)) (kq (n:=n+7) (k:=9) L0 (Qx hn av) av))) (i4.cons (SF.ip (bp (L0.gf 20 _ rfl) hC (au (ai k1) (au aC aF)) (kq (n:=n+7) (k:=10) L0 (Qx hn av) av))) i4.nil))) rfl av (by rintro ⟨⟩ h;subst h;rfl)
 generalize jI ns 0=x at *
 generalize jI ns 9=y at *
 generalize jI ns 10=z at *
 have l2:∀ u,lk (stores ek ((["x","y","z"]:List Qy).reverse.zip ([.val (.int x),.val (.int y),.val (.int z)]:List En).reverse)) u=if u="x" then some (.val (.int x)) else if u="y" then some (.val (.int y)) else if u="z" then some (.val (.int z)) else lk ek u:=fun u=>Kn
 generalize stores ek ((["x","y","z"]:List Qy).reverse.zip ([.val (.int x),.val (.int y),.val (.int z)]:List En).reverse)=ej at *
 have Nk:=ub ns
 have O7:=r6 ns
 have cv:=yr x
 have ep:(2:Int) ^ ((32:Int)).toNat=4294967296:=rfl
 have eS:SE (X.cB cJ) (n+8) (aw (top 62)) (match (bodyOf (top 62)).getD 2 (.Pass default) with|.Assign _ (.Tuple [_,s,_] _ _) _=>s|_=>.Name "" default) ej #[] (.int (kN x:Int)) ej #[]:=by
  rw [← cv.1,← ep]
  exact cK (gK (ai ((l2 _).trans rfl)) aC av av) (SE.pow aC aC av av av) av
 have s2:S1 (X.cB cJ) (n+8) (aw (top 62)) ((bodyOf (top 62)).getD 2 (.Pass default)) ej #[] (.next (stores ej ((["rows","salt","view"]:List Qy).reverse.zip ([.val (.list ((fD ns).map a8)),.val (.int (kN x:Int)),kK 416 fY (xO (X.cB cJ) 0)]:List En).reverse)) #[]) :=
  S1.gP (i4.cons (SF.ip (bp (L0.gf 22 _ rfl) O6 (au (ai ((l2 _).trans k1)) aF) (t9 (n:=n+6) L0 (Qx hn av)))) (i4.cons (SF.ip eS) (i4.cons (SF.view LN (L0.gf 32 _ rfl) (L0.gf 33 _ rfl)) i4.nil))) rfl av (by rintro ⟨⟩ h;subst h;rfl)
 have l3:∀ u,lk (stores ej ((["rows","salt","view"]:List Qy).reverse.zip ([.val (.list ((fD ns).map a8)),.val (.int (kN x:Int)),kK 416 fY (xO (X.cB cJ) 0)]:List En).reverse)) u=if u="rows" then some (.val (.list ((fD ns).map a8))) else if u="salt" then some (.val (.int (kN x:Int))) else if u="view" then some (kK 416 fY (xO (X.cB cJ) 0)) else lk ej u:=fun u=>Kn
 generalize stores ej ((["rows","salt","view"]:List Qy).reverse.zip ([.val (.list ((fD ns).map a8)),.val (.int (kN x:Int)),kK 416 fY (xO (X.cB cJ) 0)]:List En).reverse)=gr at *
 generalize fD ns=rs at *
 generalize kN x=salt at *
 have MJ:lk gr ("view":Qy)=some (kK 416 fY (xO (X.cB cJ) 0)):=(l3 _).trans rfl
 have s3:S1 (X.cB cJ) (n+8) (aw (top 62)) ((bodyOf (top 62)).getD 3 (.Pass default)) gr #[] (.next (aS gr "view" (kK 416 fY (BN (X.cB cJ)))) #[]) :=
  dI (SE.A6 MJ (au (SE.LK L0 12 rfl) (au aC aF)) MJ LN.qB (IK (n:=n+5) LN))
 have l4:∀ u,lk (aS gr "view" (kK 416 fY (BN (X.cB cJ)))) u=if u="view" then some (kK 416 fY (BN (X.cB cJ))) else lk gr u:=fun u=>bx ..
 generalize aS gr "view" (kK 416 fY (BN (X.cB cJ)))=rn at *
 refine xK.cons s0 (xK.cons s1 (xK.cons s2 (xK.cons s3 (xK.switch (x:="view") (ρ':=[("x",.val (.int x)),("y",.val (.int y)),("z",.val (.int z)),("rows",.val (.list (rs.map a8))),("salt",.val (.int (salt:Int))),("view",.val (.ext 0))]) ((l4 _).trans rfl) ?_ fun P=>?_))))
 ·have pr:nK (.list (rs.map a8))=true:=by
   have:∀ rs:List Row,lP (rs.map a8)=true:=fun rs=>by
    induction rs with
    | nil=>rfl
    | cons r rs ih=>show (nK (a8 r)&&lP (rs.map a8))=true;rw [ih];rfl
   exact this rs
  exact Fo (.inr ⟨av,(l4 _).trans ((l3 _).trans ((l2 _).trans rfl)),_,rfl,rfl⟩) (Fo (.inr ⟨av,(l4 _).trans ((l3 _).trans ((l2 _).trans rfl)),_,rfl,rfl⟩) (Fo (.inr ⟨av,(l4 _).trans ((l3 _).trans ((l2 _).trans rfl)),_,rfl,rfl⟩) (Fo (.inr ⟨av,(l4 _).trans ((l3 _).trans rfl),_,rfl,pr⟩) (Fo (.inr ⟨av,(l4 _).trans ((l3 _).trans rfl),_,rfl,rfl⟩) (Fo (.inl ⟨rfl,rfl⟩) N0)))))
 ·obtain ⟨b',h⟩:=zm (n:=n) (x:=x) (y:=y) (z:=z) (L P) (HM P (L P)) (HF P (L P)) cv.2 Nk.1 Nk.2 O7 (ρ:=[("x",.val (.int x)),("y",.val (.int y)),("z",.val (.int z)),("rows",.val (.list (rs.map a8))),("salt",.val (.int (salt:Int))),("view",.val (.ext 0))]) ⟨rfl,rfl,rfl,rfl,rfl,rfl⟩
  exact ⟨_,b',h⟩
end
noncomputable def eG (b:Array UInt8) (a:Nat) (l:List Nat):Prop:=∀ j,j<l.length→fo b.toList (a+j)=UInt8.ofNat (l.getD j 0)
theorem eG.wrote (b:Array UInt8) (a:Nat) (l:List Nat):eG (wr b a (bY l)) a l:=fun j hj=>by
 rw [qC,if_pos ⟨Sn _ _,by rw [aK];exact Mq hj⟩,Nat.add_sub_cancel_left]
 unfold fo bY
 rw [Qw,QU,QI hj,Qw,QI hj]
 rfl
theorem eG.other {b:Array UInt8}{a i:Nat}{l:List Nat}{x:List UInt8}(h:eG b a l) (hd:a+l.length≤i∨i+x.length≤a):eG (wr b i x) a l:=fun j hj=>by
 rw [qC,if_neg (by exact (xD (ag (j6 (aq (ak aj cM) aa) (aq (ak aa a7) aj)) (ag (aD az cM) (bI (dB (aq aa (ak aj az)) (aD (ak aj az) (ak aa a7))))))) hd hj)]
 exact h j hj
theorem eG.left {b:Array UInt8}{a:Nat}{l m:List Nat}(h:eG b a (l++m)):eG b a l:=fun j hj=>by
 have:=h j (by rw [QA];exact (dC (ag (aD aa aj) (aD aa (ak aj az)))) hj)
 rwa [Qw,List.getElem?_append_left hj,← Qw] at this
theorem eG.right {b:Array UInt8}{a:Nat}{l m:List Nat}(h:eG b a (l++m)):eG b (a+l.length) m:=fun j hj=>by
 have:=h (l.length+j) (by rw [QA];exact Mq hj)
 rwa [Qw,List.getElem?_append_right (Sn _ _),Nat.add_sub_cancel_left,← Qw,← Nat.add_assoc] at this
theorem eG.append {b:Array UInt8}{a:Nat}{l m:List Nat}(h:eG b a l) (k:eG b (a+l.length) m):eG b a (l++m):=fun j hj=>by
 by_cases q:j<l.length
 ·rw [Qw,List.getElem?_append_left q,← Qw]
  exact h j q
 ·rw [QA] at hj
  have:=k (j-l.length) ((Lq 3 0 [b9 aa aj] (ag (aD aa (ak aj az)) (ag (bI (aD aa aj)) (aD a7 az)))) hj q)
  rw [Qw,List.getElem?_append_right (by exact Ct q),← Qw,← this]
  congr 1;exact (Lq 3 0 [b9 aj az] (ag (bI (aD aj az)) (aH (ak aa aj) (ak (ak aa az) a7)))) q
theorem eG.read {b:Array UInt8}{a:Nat}{l:List Nat}(h:eG b a l):dR b.toList a l.length=bY l:=by
 rw [kO]
 refine SX (by rw [Qu,Q6,aK]) fun j h1 h2=>?_
 rw [Qu,Q6] at h1
 have e:(bY l)[j]'h2=UInt8.ofNat (l[j]'h1):=by simp [bY]
 rw [List.getElem_map,TF,h j h1,e,Qw,QI h1];rfl
theorem eG.eU {b:Array UInt8}{k i:Nat}{l:List Nat}(h:eG b (k*256+i) l) (hl:i+l.length≤256):jO (eU b k) i l:=by
 refine ⟨((Mine.Internal.eU b k).drop i).drop l.length,?_⟩
 have e:((Mine.Internal.eU b k).drop i).take l.length=bY l:=by
  unfold Mine.Internal.eU
  rw [pK _ _ _ _ _ hl]
  exact h.read
 rw [← e,List.take_append_drop]
theorem eG.first {b:Array UInt8}{k c:Nat}{l:List Nat}(h:eG b (k*256) (c::l)) (hc:c<256):e8 b k=c:=by
 unfold e8
 rw [ni b k av]
 have:=h 0 (Nat.zero_lt_succ _)
 rw [this]
 exact eJ hc
theorem eG.tab {b:Array UInt8}{tb i leaf:Nat}(h:eG b (tb*256+4*i) (aZ leaf 4)):TabAt b tb i leaf:=by
 have:=h.read
 rwa [ax] at this
theorem bH.nm {rs:List Row}(h:bH rs) {r:Row}(hr:r∈rs):oO r.1:=⟨by have:=(h.len r hr).2;exact Qx this av,fun c hc=>ir (h.sgn r hr c hc)⟩
theorem sX {rs:List Row}(h:bH rs):∀ o∈fN,∀ r∈rs,r.1≠o:=fun o ho r hr e=>by
 unfold fN at ho
 simp only [R1,RB,or_false] at ho
 have hl:=h.len r hr
 have hs:=h.sgn r hr
 rcases ho with rfl|rfl|rfl|rfl
 ·have:=hs 113 (by rw [e];decide);exact absurd this av
 ·have:=hs 113 (by rw [e];decide);exact absurd this av
 ·rw [e] at hl;exact absurd hl.1 av
 ·rw [e] at hl;exact absurd hl.2 av
theorem yh {rs:List Row}(h:bH rs):∀ o∈ka,∀ r∈rs,r.1≠o:=fun o ho r hr e=>by
 unfold ka at ho
 obtain ⟨t,_,rfl⟩:=dj ho
 have:=h.sgn r hr 113 (by rw [e];exact QB)
 exact absurd this av
theorem nM {rs:List Row}(h:bH rs) {ls:List aU}{salt:Nat}{lp:Option (Nat×Nat)}:∀ o∈qx ls salt lp,∀ r∈rs,r.1≠o:=fun o ho=>by
 cases lp with
 | none=>exact sX h o ho
 | some p =>
  rcases i9 ho with ho|ho
  ·exact sX h o ho
  ·exact yh h o ((jz (List.mem_of_mem_take ho)).1)
theorem uz {rs:List Row}(hn:(rs.map (·.1)).Nodup) {r:Row}(hr:r∈rs):rs.filter (fun q=>decide (q.1=r.1))=[r]:=by
 induction rs with
 | nil=>cases hr
 | cons a rs ih =>
  rw [QT,RH] at hn
  by_cases q:a.1=r.1
  ·have ha:a=r:=by
    rcases bS hr with e|e
    ·exact e.symm
    ·exact absurd (q▸fV ⟨r,e,rfl⟩) hn.1
   subst ha
   rw [List.filter_cons_of_pos (by simp)]
   congr 1
   refine List.filter_eq_nil_iff.mpr fun c hc=>?_
   rw [decide_eq_true_iff]
   exact fun z=>hn.1 (z▸fV ⟨c,hc,rfl⟩)
  ·rw [List.filter_cons_of_neg (by simpa using q)]
   rcases bS hr with e|e
   ·exact absurd (by rw [e]) q
   ·exact ih hn.2 e
theorem filter_none {rs:List Row}{nm:List Nat}(h:∀ r∈rs,r.1≠nm):rs.filter (fun q=>decide (q.1=nm))=[] :=
 List.filter_eq_nil_iff.mpr fun c hc=>by rw [decide_eq_true_iff];exact h c hc
theorem y4 {b:Array UInt8}:∀ (rs:List Row) (a:Nat),a+((rs.map dJ).flatten).length≤256→eG b a ((rs.map dJ).flatten)→(∀ r∈rs,oO r.1∧r.2<18446744073709551616)→lr (eU b 0) a rs:=by
 intro rs
 induction rs with
 | nil =>
  exact fun a _ _ _=>.nil
 | cons lq rs bA =>
  obtain ⟨nm,num⟩:=lq
  intro a hl h lA
  rw [QT,RJ,QA] at hl
  rw [QT,RJ] at h
  have e1:(dJ (nm,num)).length=9+nm.length:=by
   unfold dJ encM
   simp only [QA,ax,QC,QP];exact @vq _
  have h1:eG b (0*256+a) (dJ (nm,num)):=by rw [Nat.zero_mul,Sk];exact h.left
  have h2:=h.right
  rw [e1] at h2 hl
  obtain ⟨Ge,Gd⟩:=lA _ QB
  refine .cons (h1.eU (by rw [e1];exact (ji (ag (aq (ak aa (ak (ak (ae 9) aj) az)) (ae 256)) (ag (aH a7 (ak (ae 9) aj)) (aq (ak aa (ak (ae 9) aj)) (ae 256))))) hl e1)) Ge Gd (bA _ ((ji (ag (aq (ak aa (ak (ak (ae 9) aj) az)) (ae 256)) (ag (aH a7 (ak (ae 9) aj)) (aq (ak (ak (ak aa (ae 9)) aj) az) (ae 256))))) hl e1) ?_ fun r hr=>lA r (QD _ hr))
  have e2:a+9+nm.length=a+(9+nm.length):=by exact @GQ _ _
  rw [e2];exact h2
theorem nX {rs:List Row}(h:bH rs):∀ r∈rs,∀ c∈r.1,c<1114112:=fun r hr c hc=>by
 have:=ir (h.sgn r hr c hc);exact CV this
section
variable {X:Cx}{P:bj}{n:Nat}{b:Array UInt8}
theorem tC (L:cP X P):E8 X (n+12):=fun salt rs hs hR h8=>by
 have hm:=vy (salt:=salt) hR h8
 have hw:=eG.wrote #[] 0 (jY salt rs)
 have hsz:=dz #[] 0 (bY (jY salt rs))
 rw [aK] at hsz
 have lB:=sD rs 6 fun r hr=>(hR.len r hr).2
 generalize wr #[] 0 (bY (jY salt rs))=b at *
 have hz:b.size≤1000000:=(Lq 3 0 [oQ aj (ak (ae 0) az)] (ag (aq aj (ae 6000)) (ag (aq az (ae 127)) (ag (aq aa (ak a7 (ae 256))) (aq aa (ae 1000000)))))) (RC 6000:(#[]:Array UInt8).size≤6000) hm.2.1 hsz
 unfold jY at hw
 have h0:e8 b 0=1:=eG.first (k:=0) (c:=1) (l:=aZ salt 4++aZ rs.length 2++(rs.map dJ).flatten) (by simpa using hw) av
 have w1:=hw.left.right
 have w2:=hw.right
 simp only [QA,QC,QP,ax] at w1 w2
 have hc:jO (eU b 0) 5 (aZ rs.length 2):=eG.eU (k:=0) (i:=5) w1 (by rw [ax];decide)
 have hr:lr (eU b 0) 7 rs:=y4 rs 7 ((cS (ag (aq aa (ae 8)) (ag (aq aj (cD aa 15)) (aq (ak (ae 7) aj) (ae 256))))) h8 lB) w2 fun r hr=>⟨hR.nm hr,hR.num r hr⟩
 have vR:∀ nm,cb X (n+11) 471 [.ext 0,.str (bR nm)] b (.ok (Dt ((rs.filter fun r=>decide (r.1=nm)).map (·.2))).vR b):=fun nm=>gR (n:=n+10) L (nt (n:=n+2) L hz h0 hc (Qx h8 av) hr)
 have g5:LsOk [(0,0)]:=(bW.start 0).ok av
 refine kh (n:=n+9) (bad:=[]) (looped:=none) L g5 av (nX hR) hR.nd (Q8 h8 av) (fun e he=>?_) ?_
 ·rcases i9 he with he|he
  ·obtain ⟨r,hr,rfl⟩:=dj he
   have:=vR r.1
   rw [uz hR.nd hr] at this
   have ed:e7 [(0,0)] salt [] none r.1 (some r.2)=.num r.2:=by
    unfold e7;rw [if_neg];rintro (h|⟨h,_⟩)
    ·cases h
    ·cases h
   show cb X (n+11) 471 _ b (.ok (e7 [(0,0)] salt [] none r.1 (some r.2)).vR b)
   rw [ed];exact this
  ·obtain ⟨o,ho,rfl⟩:=dj he
   have:=vR o
   rw [filter_none (nM hR o ho)] at this
   have ed:e7 [(0,0)] salt [] none o none=.none:=by
    unfold e7;rw [if_neg];rintro (h|⟨_,h⟩)
    ·cases h
    ·cases h
   show cb X (n+11) 471 _ b (.ok (e7 [(0,0)] salt [] none o none).vR b)
   rw [ed];exact this
 ·rw [if_pos rfl]
  exact jT (n:=n+10) (rs:=some (fg rs)) L (oX (n:=n+2) L hz h0 hc (Q8 h8 av) hr hR.nd)
end
noncomputable def bL (salt:Nat) (nm:List Nat):Nat:=aT nm salt % 4
theorem q9 (salt:Nat) (nm:List Nat):bL salt nm<4:=UB _ av
structure fT (s:cF):Prop where
 h4:s.hs.length=4
 f4:s.fs.length=4
 lt:∀ c,s.hs.getD c 0<s.at_
 fl:∀ c,s.hs.getD c 0≠0→s.fs.getD c 0+15≤s.at_
 lo:16≤s.at_
theorem sv {l:List Nat}{i j v:Nat}(h:i<l.length):(l.set i v).getD j 0=if j=i then v else l.getD j 0:=by
 rw [Qw,List.getElem?_set]
 by_cases q:i=j
 ·subst q;rw [if_pos rfl,if_pos h,if_pos rfl];rfl
 ·rw [if_neg q,if_neg (Ne.symm q),Qw]
theorem fT.zero:fT jg:=by
 have h:∀ c,jg.hs.getD c 0=0:=fun c=>by
  show (replicate 4 0).getD c 0=0
  rw [Qw,Sp];split<;>rfl
 exact ⟨rfl,rfl,fun c=>by rw [h];show 0<16;decide,fun c q=>absurd (h c) q,QV 16⟩
theorem dy {salt:Nat}{s:cF}{r:Row}(h:fT s) (c:Nat):(bz salt s r).hs.getD c 0=if c=bL salt r.1 then s.at_ else s.hs.getD c 0:=by
 show (s.hs.set _ _).getD c 0=_
 rw [sv (by rw [h.h4];exact q9 salt r.1)];rfl
theorem mZ {salt:Nat}{s:cF}{r:Row}(h:fT s) (c:Nat):(bz salt s r).fs.getD c 0=if c=bL salt r.1∧s.hs.getD c 0=0 then s.at_ else s.fs.getD c 0:=by
 show (if s.hs.getD (bL salt r.1) 0=0 then s.fs.set (bL salt r.1) s.at_ else s.fs).getD c 0=_
 by_cases q:s.hs.getD (bL salt r.1) 0=0
 ·rw [if_pos q,sv (by rw [h.f4];exact q9 salt r.1)]
  by_cases e:c=bL salt r.1
  ·subst e;rw [if_pos rfl,if_pos ⟨rfl,q⟩]
  ·rw [if_neg e,if_neg fun z=>e z.1]
 ·have q':¬ (c=bL salt r.1∧s.hs.getD c 0=0):=fun ⟨z1,z2⟩=>q (z1▸z2)
  rw [if_neg q,if_neg q']
theorem step_at {salt:Nat}{s:cF}{r:Row}:(bz salt s r).at_=s.at_+15+r.1.length:=rfl
theorem fT.step {salt:Nat}{s:cF}(h:fT s) (r:Row):fT (bz salt s r):=by
 refine ⟨nV h.h4,nW h.f4,fun c=>?_,fun c q=>?_,by rw [step_at];have:=h.lo;exact (cS (ag (aq (ae 16) aa) (aq (ae 16) (ak (ak aa (ae 15)) aj)))) this⟩
 ·rw [dy h,step_at]
  have:=h.lt c
  split<;>(first|exact @GU _ _|exact (dC (ag (aD aa aj) (aD aa (ak (ak aj (ae 15)) az)))) this)
 ·rw [mZ h,step_at]
  rw [dy h] at q
  by_cases e:c=bL salt r.1∧s.hs.getD c 0=0
  ·rw [if_pos e];exact @GS _ _
  ·rw [if_neg e]
   by_cases e2:s.hs.getD c 0=0
   ·have e3:c≠bL salt r.1:=fun z=>e ⟨z,e2⟩
    rw [if_neg e3] at q
    exact absurd e2 q
   ·have:=h.fl c e2;exact (dC (ag (aq (ak aa (ae 15)) aj) (aq (ak aa (ae 15)) (ak (ak aj (ae 15)) az)))) this
noncomputable def jA (lp:Option Nat) (s:cF) (c:Nat):Nat:=if lp=some c∧s.hs.getD c 0=0 then s.at_ else s.hs.getD c 0
inductive oR (x:List UInt8) (lp:Option Nat) (salt:Nat):cF→List Row→Prop
 | nil {s:cF}:oR x lp salt s []
 | cons {s:cF}{r:Row}{rs:List Row}:jO x s.at_ (fu (jA lp s (bL salt r.1)) (aT r.1 salt) r.1 r.2)→FN (jA lp s (bL salt r.1)) (aT r.1 salt) r.1 r.2→oR x lp salt (bz salt s r) rs→oR x lp salt s (r::rs)
theorem oR.rows {x:List UInt8}{lp:Option Nat}{salt:Nat}{s:cF}{rs:List Row}(h:oR x lp salt s rs):mG x s.at_ rs:=by
 induction h with
 | nil=>exact .nil
 | cons h1 h2 _ ih=>exact .cons h1 h2 ih
noncomputable def pw (lp:Option Nat) (salt:Nat) (nm:List Nat):List Row→cF→jV→jV
 | [],_,a=>a
 | r::rs,s,a=>pw lp salt nm rs (bz salt s r) (if r.1=nm then .num r.2 else if bL salt r.1=bL salt nm∧s.hs.getD (bL salt nm) 0=0∧lp=some (bL salt nm) then .exc else a)
noncomputable def Ag (x:List UInt8) (salt:Nat) (nm:List Nat) (s:cF) (a:jV):Prop:=(s.hs.getD (bL salt nm) 0=0∧a=.none)∨(s.hs.getD (bL salt nm) 0≠0∧pC x nm (aT nm salt) (s.hs.getD (bL salt nm) 0) a)
theorem Ag.seek {x:List UInt8}{salt:Nat}{nm:List Nat}{s:cF}{a:jV}(h:Ag x salt nm s a):pC x nm (aT nm salt) (s.hs.getD (bL salt nm) 0) a:=by
 rcases h with ⟨h,rfl⟩|⟨_,h⟩
 ·rw [h];exact .zero
 ·exact h
theorem wG {x:List UInt8}{lp:Option Nat}{salt:Nat}{nm:List Nat}:∀ (rs:List Row) (s:cF) (a:jV),fT s→oR x lp salt s rs→Ag x salt nm s a→Ag x salt nm (rs.foldl (bz salt) s) (pw lp salt nm rs s a):=by
 intro rs
 induction rs with
 | nil =>
  exact fun s a _ _ h=>h
 | cons r rs bA =>
  intro s a ok he h
  cases he with
  | cons h1 h2 h3 =>
   refine bA _ _ (ok.step r) h3 ?_
   have e:=dy (salt:=salt) (r:=r) ok (bL salt nm)
   have sj:=ok.lo
   unfold Ag
   rw [e]
   by_cases hc:bL salt nm=bL salt r.1
   ·rw [if_pos hc]
    refine .inr ⟨by exact jt sj,?_⟩
    rw [← hc] at h1 h2
    by_cases hn:r.1=nm
    ·rw [if_pos hn]
     rw [hn] at h1 h2
     exact .hit (jt sj) h1 h2
    ·rw [if_neg hn]
     have cy:¬ (aT r.1 salt=aT nm salt∧r.1=nm):=fun z=>hn z.2
     by_cases h0:s.hs.getD (bL salt nm) 0=0
     ·by_cases hl:lp=some (bL salt nm)
      ·rw [if_pos ⟨hc.symm,h0,hl⟩]
       have el:jA lp s (bL salt nm)=s.at_:=if_pos ⟨hl,h0⟩
       rw [el] at h1 h2
       exact .loop ((cS (ag (aq (ae 16) aa) (ag (aH aj aa) (bI (aH aa (ae 0)))))) sj el) h1 h2 cy (QV _)
      ·rw [if_neg fun z=>hl z.2.2]
       have el:jA lp s (bL salt nm)=0:=by unfold jA;rw [if_neg fun z=>hl z.1,h0]
       rw [el] at h1 h2
       rcases h with ⟨_,rfl⟩|⟨h,_⟩
       ·exact .miss (jt sj) h1 h2 cy ((dW (ag (aq (ae 16) aa) (aD (ae 0) aa))) sj) .zero
       ·exact absurd h0 h
     ·rw [if_neg fun z=>h0 z.2.1]
      have el:jA lp s (bL salt nm)=s.hs.getD (bL salt nm) 0:=by unfold jA;rw [if_neg fun z=>h0 z.2]
      rw [el] at h1 h2
      rcases h with ⟨h,_⟩|⟨_,h⟩
      ·exact absurd h h0
      ·exact .miss (jt sj) h1 h2 cy (ok.lt _) h
   ·rw [if_neg hc]
    have hn:r.1≠nm:=fun z=>hc (by rw [z])
    rw [if_neg hn,if_neg fun z=>hc z.1.symm]
    exact h
theorem l7 {lp:Option Nat}{salt:Nat}{nm:List Nat}:∀ (rs:List Row) (s:cF) (a:jV),fT s→(∀ r∈rs,r.1≠nm)→(s.hs.getD (bL salt nm) 0≠0∨lp≠some (bL salt nm))→pw lp salt nm rs s a=a:=by
 intro rs
 induction rs with
 | nil =>
  exact fun _ _ _ _ _=>rfl
 | cons r rs bA =>
  intro s a ok hn h
  have hs:(bz salt s r).hs.getD (bL salt nm) 0≠0∨lp≠some (bL salt nm):=h.imp (fun h=>by
   rw [dy ok];have:=ok.lo;split<;>(first|exact jt this|exact CA h (by assumption))) id
  show pw _ _ _ rs _ (ite _ _ (ite _ _ _))=_
  rw [if_neg (hn r QB),if_neg fun z=>h.elim (fun q=>q z.2.1) fun q=>q z.2.2]
  exact bA _ a (ok.step r) (fun q hq=>hn q (QD _ hq)) hs
theorem sY {lp:Option Nat}{salt:Nat}:∀ (rs:List Row) (s:cF) (a:jV) (r:Row),fT s→(rs.map (·.1)).Nodup→r∈rs→pw lp salt r.1 rs s a=.num r.2
 | q::rs,s,a,r,ok,hn,hr=>by
  rw [QT,RH] at hn
  show pw _ _ _ rs _ (ite _ _ (ite _ _ _))=_
  by_cases e:q.1=r.1
  ·rw [if_pos e]
   have eq:q=r:=by
    rcases bS hr with z|z
    ·exact z.symm
    ·exact absurd (e▸fV ⟨r,z,rfl⟩) hn.1
   subst eq
   refine l7 rs _ _ (ok.step _) (fun p hp z=>hn.1 (z▸fV ⟨p,hp,rfl⟩)) (.inl ?_)
   rw [dy ok,if_pos rfl];have:=ok.lo;exact jt this
  ·rcases bS hr with z|z
   ·exact absurd (by rw [z]) e
   ·exact sY rs _ _ r (ok.step q) hn.2 z
theorem xA {salt:Nat}{nm:List Nat}:∀ (rs:List Row) (s:cF) (a:jV),fT s→(∀ r∈rs,r.1≠nm)→s.hs.getD (bL salt nm) 0=0→(∃ r∈rs,bL salt r.1=bL salt nm)→pw (some (bL salt nm)) salt nm rs s a=.exc:=by
 intro rs
 induction rs with
 | nil =>
  exact fun _ _ _ _ _ h=>by obtain ⟨_,h,_⟩:=h;cases h
 | cons q rs bA =>
  intro s a ok hn h0 hr
  show pw _ _ _ rs _ (ite _ _ (ite _ _ _))=_
  rw [if_neg (hn q QB)]
  by_cases e:bL salt q.1=bL salt nm
  ·rw [if_pos ⟨e,h0,rfl⟩]
   refine l7 rs _ _ (ok.step q) (fun p hp=>hn p (QD _ hp)) (.inl ?_)
   rw [dy ok,if_pos e.symm];have:=ok.lo;exact jt this
  ·rw [if_neg fun z=>e z.1]
   refine bA _ _ (ok.step q) (fun p hp=>hn p (QD _ hp)) (by rw [dy ok,if_neg (Ne.symm e)];exact h0) ?_
   obtain ⟨r,hr,h⟩:=hr
   rcases bS hr with z|z
   ·subst z;exact absurd h e
   ·exact ⟨r,z,h⟩
noncomputable def hJ (salt:Nat):List Row→cF→List Nat
 | [],_=>[]
 | r::rs,s=>fu (s.hs.getD (bL salt r.1) 0) (aT r.1 salt) r.1 r.2++hJ salt rs (bz salt s r)
theorem ux (salt:Nat):∀ (rs:List Row) (s:cF),(rs.foldl (bz salt) s).bd=s.bd++hJ salt rs s:=by
 intro rs
 induction rs with
 | nil =>
  exact fun s=>by rw [hJ,Sj];rfl
 | cons r rs bA =>
  intro s
  rw [RY,bA,hJ,← Q9];rfl
noncomputable def IE (tl:Nat) (nm:List Nat) (num:Nat):List Nat:=aZ tl 4++[nm.length]++nm++aZ num 8
theorem vW (lk tl:Nat) (nm:List Nat) (num:Nat):fu lk tl nm num=aZ lk 2++IE tl nm num:=by
 unfold fu IE
 simp only [Q9]
noncomputable def BJ (rs:List Row):Prop:=∀ r∈rs,oO r.1∧r.2<18446744073709551616
theorem vC {lp:Option Nat}{s:cF}{c:Nat}(h:fT s):jA lp s c≤s.at_:=by
 unfold jA
 have:=h.lt c
 split<;>(first|exact @GR _|exact (cS (ag (aD aa aj) (aq aa aj))) this)
theorem g9 (salt:Nat) (r:Row) (rs:List Row) (s:cF):(hJ salt (r::rs) s).length=15+r.1.length+(hJ salt rs (bz salt s r)).length:=by
 rw [hJ,QA,gG]
theorem Bu {b:Array UInt8}{k salt:Nat}:∀ (rs:List Row) (s:cF),fT s→s.at_+(hJ salt rs s).length≤256→eG b (k*256+s.at_) (hJ salt rs s)→BJ rs→oR (eU b k) none salt s rs:=by
 intro rs
 induction rs with
 | nil =>
  exact fun _ _ _ _ _=>.nil
 | cons r rs bA =>
  intro s ok hl h hr
  rw [g9] at hl
  rw [hJ] at h
  obtain ⟨h1,h2⟩:=hr r QB
  have e:jA none s (bL salt r.1)=s.hs.getD (bL salt r.1) 0:=by unfold jA;rw [if_neg fun z=>nomatch z.1]
  have KY:=vC (lp:=none) (c:=bL salt r.1) ok
  refine .cons ?_ ⟨by exact (xD (ag (aq (ak aj (ak (ak (ae 15) az) a7)) (ae 256)) (ag (aH aa cM) (ag (aq aa aj) (aD aa (ae 65536)))))) hl e KY,eH _ _,h1,h2⟩ (bA _ (ok.step r) (by rw [step_at];exact Cz hl) ?_ fun q hq=>hr q (QD _ hq))
  ·rw [e]
   exact h.left.eU (by rw [gG];exact Cy hl)
  ·have:=h.right
   rw [gG] at this
   rw [step_at]
   have e2:k*256+(s.at_+15+r.1.length)=k*256+s.at_+(15+r.1.length):=by exact @Cw _ _ _
   rw [e2];exact this
theorem nc (salt cl:Nat):∀ (rs:List Row) (s:cF),fT s→s.hs.getD cl 0≠0→(rs.foldl (bz salt) s).fs.getD cl 0=s.fs.getD cl 0:=by
 intro rs
 induction rs with
 | nil =>
  exact fun _ _ _=>rfl
 | cons r rs bA =>
  intro s ok h
  have h':(bz salt s r).hs.getD cl 0≠0:=by rw [dy ok];have:=ok.lo;split<;>(first|exact jt this|exact CA h (by assumption))
  rw [RY,bA _ (ok.step r) h',mZ ok,if_neg fun z=>h z.2]
theorem sz (salt cl:Nat):∀ (rs:List Row) (s:cF),fT s→s.hs.getD cl 0=0→(∃ r∈rs,bL salt r.1=cl)→s.at_≤(rs.foldl (bz salt) s).fs.getD cl 0:=by
 intro rs
 induction rs with
 | nil =>
  exact fun _ _ _ h=>by obtain ⟨_,h,_⟩:=h;cases h
 | cons r rs bA =>
  intro s ok h hr
  rw [RY]
  by_cases e:cl=bL salt r.1
  ·have h':(bz salt s r).hs.getD cl 0≠0:=by rw [dy ok,if_pos e];have:=ok.lo;exact jt this
   rw [nc salt cl rs _ (ok.step r) h',mZ ok,if_pos ⟨e,h⟩]
   exact QV _
  ·have:=bA _ (ok.step r) (by rw [dy ok,if_neg e];exact h) (by
    obtain ⟨q,hq,hc⟩:=hr
    rcases bS hq with z|z
    ·subst z;exact absurd hc.symm e
    ·exact ⟨q,z,hc⟩)
   rw [step_at] at this
   exact Qx (Qx (Sn _ _) (Sn _ _)) this
theorem xp {b:Array UInt8}{k salt cl at_:Nat}:∀ (rs:List Row) (s:cF),fT s→s.at_+(hJ salt rs s).length≤256→eG b (k*256+s.at_) (hJ salt rs s)→BJ rs→(rs.foldl (bz salt) s).fs.getD cl 0=at_→(s.hs.getD cl 0≠0∨∃ r∈rs,bL salt r.1=cl) →
  oR (eU (wr b (k*256+at_) (bY (aZ at_ 2))) k) (some cl) salt s rs:=by
 intro rs
 induction rs with
 | nil =>
  exact fun _ _ _ _ _ _ _=>.nil
 | cons r rs bA =>
  intro s ok hl h hr zF hex
  rw [g9] at hl
  rw [hJ] at h
  obtain ⟨h1,h2⟩:=hr r QB
  have KY:=vC (lp:=some cl) (c:=bL salt r.1) ok
  have hx:(bY (aZ at_ 2)).length=2:=by rw [aK,ax]
  refine .cons (eG.eU (k:=k) (i:=s.at_) ?_ (by rw [gG];exact Cy hl)) ⟨by exact (ji (ag (aq (ak aj (ak (ak (ae 15) az) a7)) (ae 256)) (ag (aq aa aj) (aD aa (ae 65536))))) hl KY,eH _ _,h1,h2⟩ (bA _ (ok.step r) (by rw [step_at];exact Cz hl) ?_ (fun q hq=>hr q (QD _ hq)) zF ?_)
  ·by_cases e:cl=bL salt r.1
   ·by_cases h0:s.hs.getD cl 0=0
    ·-- P5 first of eX chain
     have ha:at_=s.at_:=by
      rw [← zF,RY,nc salt cl rs _ (ok.step r) (by rw [dy ok,if_pos e];have:=ok.lo;exact jt this),mZ ok,if_pos ⟨e,h0⟩]
     have el:jA (some cl) s (bL salt r.1)=s.at_:=by unfold jA;rw [if_pos ⟨by rw [e],e▸h0⟩]
     rw [el,vW]
     have hh:=h.left
     rw [vW] at hh
     have MP:=hh.right
     rw [ax] at MP
     subst ha
     refine eG.append (eG.wrote _ _ _) ?_
     rw [ax]
     exact MP.other (.inr (by rw [hx];exact QV _))
    ·have el:jA (some cl) s (bL salt r.1)=s.hs.getD (bL salt r.1) 0:=by unfold jA;rw [if_neg];rintro ⟨_,z⟩;exact h0 (e▸z)
     rw [el]
     refine h.left.other (.inr ?_)
     have ha:at_=s.fs.getD cl 0:=by rw [← zF,nc salt cl (r::rs) s ok h0]
     have:=ok.fl cl h0
     rw [hx];exact Cv ha this
   ·have el:jA (some cl) s (bL salt r.1)=s.hs.getD (bL salt r.1) 0:=by unfold jA;rw [if_neg];rintro ⟨z,_⟩;exact e (Option.some.inj z)
    rw [el]
    by_cases h0:s.hs.getD cl 0=0
    ·refine h.left.other (.inl ?_)
     have Le:∃ q∈rs,bL salt q.1=cl:=by
      rcases hex with z|⟨q,hq,hc⟩
      ·exact absurd h0 z
      ·rcases bS hq with z|z
       ·subst z;exact absurd hc.symm e
       ·exact ⟨q,z,hc⟩
     have:=sz salt cl rs _ (ok.step r) (by rw [dy ok,if_neg e];exact h0) Le
     rw [step_at] at this
     rw [RY] at zF
     rw [gG];exact (xD (ag (aq (ak (ak aj (ae 15)) az) cM) (ag (aH cM a7) (aq (ak (ak (cD aa 256) aj) (ak (ae 15) az)) (ak (cD aa 256) a7))))) this zF
    ·refine h.left.other (.inr ?_)
     have ha:at_=s.fs.getD cl 0:=by rw [← zF,nc salt cl (r::rs) s ok h0]
     have:=ok.fl cl h0
     rw [hx];exact Cv ha this
  ·have:=h.right
   rw [gG] at this
   rw [step_at]
   have e2:k*256+(s.at_+15+r.1.length)=k*256+s.at_+(15+r.1.length):=by exact @Cw _ _ _
   rw [e2];exact this
  ·by_cases e:cl=bL salt r.1
   ·exact .inl (by rw [dy ok,if_pos e];have:=ok.lo;exact jt this)
   ·rcases hex with z|⟨q,hq,hc⟩
    ·exact .inl (by rw [dy ok,if_neg e];exact z)
    ·rcases bS hq with z|z
     ·subst z;exact absurd hc.symm e
     ·exact .inr ⟨q,z,hc⟩
section
variable {ls:List aU}{salt:Nat}{rs:List Row}{ord:List Nat}
theorem jG (hR:bH rs) (h8:rs.length≤8) {a:Nat}{l:List Nat}:∀ (qs:List aU) (k:Nat) (b:Array UInt8),(∀ q∈qs,q.1<256)→eG b a l→(∀ i,k≤i→i<k+qs.length→a+l.length≤ord.getD i 0*256∨ord.getD i 0*256+256≤a)→eG (dK ls salt rs ord qs k b) a l:=by
 intro qs
 induction qs with
 | nil =>
  exact fun k b _ h _=>h
 | cons q qs bA =>
  intro k b hq h hd
  have e:dK ls salt rs ord (q::qs) k b=dK ls salt rs ord qs (k+1) (wr b (ord.getD k 0*256) (bY (bw ls salt rs q k))):=rfl
  have hlen:=(fq (ls:=ls) (salt:=salt) (k:=k) hR h8 (hq q QB)).2.1
  rw [e]
  rw [QC] at hd
  refine bA (k+1) _ (fun p hp=>hq p (QD _ hp)) (h.other ?_) fun i h1 h2=>hd i (yP h1) ((dC (ag (aD aa (ak (ak aj (ae 1)) az)) (aD aa (ak aj (ak az (ae 1)))))) h2)
  rw [aK]
  rcases hd k (QV _) (@GY _ _) with z|z
  ·exact .inl z
  ·exact .inr ((dC (ag (aq aj (ae 184)) (ag (aq (ak (cD aa 256) (ae 256)) az) (aq (ak (cD aa 256) aj) az)))) hlen z)
theorem uC (hR:bH rs) (h8:rs.length≤8) (iv:∀ i j,i<ord.length→j<ord.length→ord.getD i 0=ord.getD j 0→i=j):∀ (qs:List aU) (k:Nat) (b:Array UInt8) (i:Nat) (l:aU),(∀ q∈qs,q.1<256)→k+qs.length≤ord.length→qs[i]?=some l→eG (dK ls salt rs ord qs k b) (ord.getD (k+i) 0*256) (bw ls salt rs l (k+i)):=by
 intro qs
 induction qs with
 | nil =>
  exact fun k b i l _ _ h=>by simp at h
 | cons q qs bA =>
  intro k b i l hq hk h
  have e:dK ls salt rs ord (q::qs) k b=dK ls salt rs ord qs (k+1) (wr b (ord.getD k 0*256) (bY (bw ls salt rs q k))):=rfl
  rw [e]
  rw [QC] at hk
  cases i with
  | zero =>
   simp only [Ry,Option.some.injEq] at h
   subst h
   have hlen:=(fq (ls:=ls) (salt:=salt) (k:=k) hR h8 (hq q QB)).2.1
   refine jG hR h8 qs (k+1) _ (fun p hp=>hq p (QD _ hp)) (eG.wrote _ _ _) fun i h1 h2=>?_
   have cy:ord.getD i 0≠ord.getD k 0:=fun z=>by
    have:=iv i k ((ji (ag (aq (ak az (ak a7 (ae 1))) aj) (ag (aD aa (ak (ak az (ae 1)) a7)) (aD aa aj)))) hk h2) (mN hk) z
    exact (cS (ag (aq (ak aa (ae 1)) aj) (ag (aH aj aa) L.F.ff))) h1 this
   rw [Nat.add_zero]
   exact (dC (ag (aq aj (ae 184)) (ag (bI (aH az aa)) (j6 (aq (ak (cD aa 256) aj) (cD az 256)) (aq (ak (cD az 256) (ae 256)) (cD aa 256)))))) hlen cy
  | succ i =>
   simp only [Sa] at h
   have:=bA (k+1) (wr b (ord.getD k 0*256) (bY (bw ls salt rs q k))) i l (fun p hp=>hq p (QD _ hp)) (A2 hk) h
   rw [show k+(i+1)=k+1+i by exact @DT _ _]
   exact this
structure i5 (b:Array UInt8) (B:Nat) (salt:Nat) (q:List Row):Prop where
 many:eG b (B*256+2) (aZ q.length 2)
 links:eG b (B*256+8) (((cY salt q).hs.map fun h=>aZ h 2).flatten)
 len:16+(hJ salt q jg).length≤256
theorem i5.of {b:Array UInt8}{B k:Nat}{l:aU}(hR:bH rs) (h8:rs.length≤8) (hl:l.1<256) (h:eG b (B*256) (bw ls salt rs l k)):i5 b B salt (bg ls salt rs k)∧eG b (B*256+16) (hJ salt (bg ls salt rs k) jg)∧e8 b B=3:=by
 have hlen:=(fq (ls:=ls) (salt:=salt) (k:=k) hR h8 hl).2.1
 unfold bw ke at h hlen
 generalize bg ls salt rs k=q at *
 have e:(cY salt q).bd=hJ salt q jg:=by
  have:=ux salt q jg
  exact this
 have h4:=(k9 salt q jg rfl rfl).1
 change (cY salt q).hs.length=4 at h4
 rw [e] at h hlen
 have h1:=h.left.left.left.right
 have h2:=h.left.right
 have h3:=h.right
 simp only [QA,QC,QP,ax,lV,h4] at h1 h2 h3 hlen
 refine ⟨⟨h1,h2,by exact (dW (ag (aq (ak (ak (ak (ak (ak (ak (ae 0) (ae 1)) (ae 1)) (ae 2)) (ae 4)) (dO 2 (ae 4))) aa) (ae 184)) (aq (ak (ae 16) aa) (ae 256)))) hlen⟩,h3,?_⟩
 have hf:=h.left.left.left.left
 exact eG.first (l:=[l.1]) hf av
theorem i5.other {b:Array UInt8}{B i:Nat}{q:List Row}{x:List UInt8}(h:i5 b B salt q) (hd:i+x.length≤B*256+2∨B*256+16≤i):i5 (wr b i x) B salt q:=by
 have hl:=h.len
 have h4:=(k9 salt q jg rfl rfl).1
 change (cY salt q).hs.length=4 at h4
 refine ⟨h.many.other ?_,h.links.other ?_,hl⟩
 ·rw [ax];exact (dC (ag (j6 (aq (ak aj az) (ak (cD aa 256) (ae 2))) (aq (ak (cD aa 256) (ae 16)) aj)) (j6 (aq (ak (ak (cD aa 256) (ae 2)) (ae 2)) aj) (aq (ak aj az) (ak (cD aa 256) (ae 2)))))) hd
 ·rw [lV,h4];exact (dC (ag (j6 (aq (ak aj az) (ak (cD aa 256) (ae 2))) (aq (ak (cD aa 256) (ae 16)) aj)) (j6 (aq (ak (ak (cD aa 256) (ae 8)) (dO 2 (ae 4))) aj) (aq (ak aj az) (ak (cD aa 256) (ae 8)))))) hd
theorem rU {b:Array UInt8}{a:Nat}:∀ (hs:List Nat) (c:Nat),eG b a ((hs.map fun h=>aZ h 2).flatten)→c<hs.length→eG b (a+2*c) (aZ (hs.getD c 0) 2)
 | h::hs,0,hm,_=>by rw [QT,RJ] at hm;exact hm.left
 | h::hs,c+1,hm,hc=>by
  rw [QT,RJ] at hm
  have:=hm.right
  rw [ax] at this
  have r:=rU hs c this (by simpa using hc)
  rw [show a+2*(c+1)=a+2+2*c by exact @GX _ _]
  simpa using r
 | [],c,_,hc=>by simp at hc
theorem y2 {b:Array UInt8}{a bits:Nat}:∀ (m i:Nat),eG b a (cE bits ls ord m)→i<m→eG b (a+4*i) (aZ (g8 bits ls ord i) 4):=by
 intro m
 induction m with
 | zero =>
  exact fun i _ h=>absurd h (TA _)
 | succ m bA =>
  intro i hm h
  rw [jv] at hm
  by_cases q:i=m
  ·subst q
   have:=hm.right
   rw [fk] at this
   exact this
  ·exact bA i hm.left (vn h q)
end
section
variable {X:Cx}{P:bj}{n:Nat}{b:Array UInt8}
theorem xm (L:cP X P) {B salt:Nat}{q:List Row}{lp:Option Nat}{nm:List Nat}(h3:e8 b B=3) (hB:i5 b B salt q) (he:oR (eU b B) lp salt jg q):cb X (n+8) 212 [.bytes (eU b B).toArray,.str (bR nm),.int (aT nm salt:Int)] b ((pw lp salt nm q jg .none).rs b):=by
 have h4:=(k9 salt q jg rfl rfl).1
 change (cY salt q).hs.length=4 at h4
 have hc:=q9 salt nm
 have hl:=rU (cY salt q).hs (bL salt nm) hB.links ((cS (ag (aH aj (ae 4)) (ag (aD aa (ae 4)) (aD aa aj)))) h4 hc)
 have hz:jg.hs.getD (bL salt nm) 0=0:=by
  show (replicate 4 0).getD (bL salt nm) 0=0
  rw [Qw,Sp];split<;>rfl
 have MM:=(wG (nm:=nm) q jg .none fT.zero he (.inl ⟨hz,rfl⟩)).seek
 change pC (eU b B) nm (aT nm salt) ((cY salt q).hs.getD (bL salt nm) 0) _ at MM
 have fE:∀ (rs:List Row) (s:cF),fT s→(rs.foldl (bz salt) s).hs.getD (bL salt nm) 0<(rs.foldl (bz salt) s).at_:=fun rs=>by
  induction rs with
  | nil=>exact fun s ok=>ok.lt _
  | cons r rs ih=>exact fun s ok=>ih _ (ok.step r)
 have zF:∀ (rs:List Row) (s:cF),(rs.foldl (bz salt) s).at_=s.at_+(hJ salt rs s).length:=fun rs=>by
  induction rs with
  | nil=>exact fun s=>rfl
  | cons r rs ih =>
   intro s
   rw [RY,ih,g9,step_at];exact @GW _ _ _
 have h5:=fE q jg fT.zero
 have h6:=zF q jg
 have h7:=hB.len
 have h8:jg.at_=16:=rfl
 change (cY salt q).hs.getD (bL salt nm) 0<(cY salt q).at_ at h5
 change (cY salt q).at_=_ at h6
 refine r0 L (by rw [cR];decide) h3 (a:=(cY salt q).hs.getD (bL salt nm) 0) ?_ ((ji (ag (aq (ak (ae 16) aj) (ae 256)) (ag (aH az (ae 16)) (ag (aD aa a7) (ag (aH a7 (ak az aj)) (aD aa (ae 65536))))))) h7 h8 h5 h6) MM
 have:eG b (B*256+(8+aT nm salt % 4*2)) (aZ ((cY salt q).hs.getD (bL salt nm) 0) 2):=by
  rw [show B*256+(8+aT nm salt % 4*2)=B*256+8+2*bL salt nm by unfold bL;exact @GV _ _]
  exact hl
 exact this.eU (by rw [ax];unfold bL at hc;exact (Lq 1 0 [fO aa 4] (ag (aD az (ae 4)) (aq (ak (ak (ae 8) (cD az 2)) (ae 2)) (ae 256)))) hc)
end
theorem ph {p q:aU→Bool}:∀ l:List aU,(∀ a∈l,p a=q a)→l.findIdx p=l.findIdx q:=by
 intro l
 induction l with
 | nil =>
  exact fun _=>rfl
 | cons a l bA =>
  intro h
  rw [TO,TO,h a QB,bA fun c hc=>h c (QD _ hc)]
theorem mu {bits:Nat}{ls:List aU}(hI:bW bits ls) (hb:bits≤32) (told:Nat):a6 ls (told / 2 ^ (32-bits)*2 ^ (32-bits))=a6 ls told:=by
 unfold a6
 refine ph ls fun l hl=>?_
 rw [oa (hI.dep l hl) hb,oa (hI.dep l hl) hb,Nat.mul_div_cancel _ (Ti av)]
theorem place_lt {bits:Nat}{ls:List aU}(hI:bW bits ls) (hb:bits≤3) {told:Nat}(h:told<4294967296):a6 ls told<ls.length:=by
 unfold a6
 exact List.findIdx_lt_length.mpr (Sg.mp ((hI.ok hb).all _ h))
theorem wR (f:Row→Nat):∀ (ks:List Nat) (rs:List Row),ks.Nodup→(∀ r∈rs,f r∈ks)→((ks.map fun k=>rs.filter fun r=>decide (f r=k)).flatten).Perm rs:=by
 intro ks
 induction ks with
 | nil =>
  intro rs _ h
  cases rs with
  | nil=>exact .nil
  | cons r rs=>exact absurd (h r QB) (by simp)
 | cons k ks bA =>
  intro rs hn h
  rw [RH] at hn
  have ih:=bA (rs.filter fun r=>!decide (f r=k)) hn.2 fun r hr=>by
   obtain ⟨h1,h2⟩:=jz hr
   rcases bS (h r h1) with z|z
   ·simp [z] at h2
   ·exact z
  have e:(ks.map fun k'=>(rs.filter fun r=>!decide (f r=k)).filter fun r=>decide (f r=k'))=ks.map fun k'=>rs.filter fun r=>decide (f r=k'):=by
   refine SD fun k' j0=>?_
   rw [List.filter_filter]
   refine List.filter_congr fun r _=>?_
   by_cases q:f r=k'
   ·have:f r≠k:=fun z=>hn.1 (z.symm.trans q▸j0)
    simp [q,this]
    exact fun z=>this (q.trans z)
   ·simp [q]
  rw [e] at ih
  rw [QT,RJ]
  exact (List.Perm.append_left _ ih).trans (List.filter_append_perm _ _)
noncomputable def tV (lp:Option (Nat×Nat)) (k:Nat):Option Nat:=match lp with
 | some (pl,cl)=>if k=pl then some cl else none
 | none=>none
structure ri (b:Array UInt8) (salt bits:Nat) (ls:List aU) (rs:List Row) (ord:List Nat) (tb:Nat) (bd:List Nat) (lp:Option (Nat×Nat)):Prop where
 size:b.size≤1000000
 head:BQ b bits salt rs.length (4+ls.length) tb
 tab:∀ i,i<2 ^ bits→TabAt b tb i (g8 bits ls ord i)
 leaf:∀ k,k<ls.length→k∉bd→e8 b (ord.getD k 0)=3∧i5 b (ord.getD k 0) salt (bg ls salt rs k)∧oR (eU b (ord.getD k 0)) (tV lp k) salt jg (bg ls salt rs k)
 bad:∀ k∈bd,k<ls.length∧e8 b (ord.getD k 0)≠3∧bg ls salt rs k≠[]
 Kl:∀ pl cl,lp=some (pl,cl)→pl∈bd∨∃ r∈bg ls salt rs pl,bL salt r.1=cl
theorem yt {ls:List aU}{salt:Nat}{rs:List Row}{r:Row}(hr:r∈rs):r∈bg ls salt rs (a6 ls (aT r.1 salt)):=Sx.mpr ⟨hr,by simp⟩
theorem wJ {ls:List aU}{salt:Nat}{rs:List Row}(h:(rs.map (·.1)).Nodup) (k:Nat):((bg ls salt rs k).map (·.1)).Nodup:=(List.filter_sublist.map _).nodup h
theorem tN {ls:List aU}{salt:Nat}{rs:List Row}{nm:List Nat}(h:∀ r∈rs,r.1≠nm) (k:Nat):∀ r∈bg ls salt rs k,r.1≠nm:=fun r hr=>h r (jz hr).1
section
variable {X:Cx}{P:bj}{n:Nat}{b:Array UInt8}{salt bits tb:Nat}{ls:List aU}{rs:List Row}{ord bad:List Nat}{lp:Option (Nat×Nat)}
theorem rW (c:Nat):jg.hs.getD c 0=0:=by
 show (replicate 4 0).getD c 0=0
 rw [Qw,Sp];split<;>rfl
theorem sF (L:cP X P) (D:ri b salt bits ls rs ord tb bad lp) (hI:bW bits ls) (hR:bH rs) (ho:∀ k,ord.getD k 0≤20) {nm:List Nat}{num:Option Nat}(hn:(∃ r∈rs,r.1=nm∧num=some r.2)∨((∀ r∈rs,r.1≠nm)∧num=none)) :
  cb X (n+9) 264 [.ext 0,.int 1,.str (bR nm)] b ((e7 ls salt bad lp nm num).rs b):=by
 have hb:=D.head.bits
 have hz:=eH nm salt
 have K7:=lJ (bits:=bits) (Qx hb av) hz
 have vF:=place_lt hI hb hz
 have ht:=D.tab _ K7
 unfold g8 at ht
 rw [mu hI (Qx hb av)] at ht
 refine qk L D.size D.head ht (by have:=ho (a6 ls (aT nm salt));exact Q8 this av) ?_
 by_cases g6:a6 ls (aT nm salt)∈bad
 ·have e:e7 ls salt bad lp nm num=.exc:=by unfold e7;rw [if_pos (.inl g6)]
  rw [e]
  exact rZ (n:=n+3) L (by rw [cR];decide) (by rw [cR];decide) (D.bad _ g6).2.1
 ·obtain ⟨h3,hB,he⟩:=D.leaf _ vF g6
  have:=xm (n:=n) L (nm:=nm) h3 hB he
  have e:pw (tV lp (a6 ls (aT nm salt))) salt nm (bg ls salt rs (a6 ls (aT nm salt))) jg .none=e7 ls salt bad lp nm num:=by
   rcases hn with ⟨r,hr,rfl,rfl⟩|⟨hn,rfl⟩
   ·rw [sY _ _ _ _ fT.zero (wJ hR.nd _) (yt hr)]
    unfold e7
    rw [if_neg]
    rintro (z|⟨z,_⟩)
    ·exact g6 z
    ·cases z
   ·have si:=tN (ls:=ls) (salt:=salt) hn (a6 ls (aT nm salt))
    by_cases hl:lp=some (a6 ls (aT nm salt),aT nm salt % 4)
    ·have e1:tV lp (a6 ls (aT nm salt))=some (bL salt nm):=by unfold tV;rw [hl];exact if_pos rfl
     have e2:e7 ls salt bad lp nm none=.exc:=by unfold e7;rw [if_pos (.inr ⟨rfl,hl⟩)]
     rw [e1,e2]
     refine xA _ _ _ fT.zero si (rW _) ?_
     exact (D.Kl _ _ hl).resolve_left g6
    ·have e2:e7 ls salt bad lp nm none=.none:=by
      unfold e7;rw [if_neg]
      rintro (z|⟨_,z⟩)
      ·exact g6 z
      ·exact hl z
     rw [e2]
     refine l7 _ _ _ fT.zero si (.inr fun z=>hl ?_)
     unfold tV at z
     cases lp with
     | none=>cases z
     | some p =>
      obtain ⟨pl,cl⟩:=p
      simp only at z
      split at z
      ·rename_i q
       cases z
       rw [q];rfl
      ·cases z
  rw [e] at this
  exact this
end
section
variable {X:Cx}{P:bj}{n:Nat}{b:Array UInt8}{salt bits tb:Nat}{ls:List aU}{rs:List Row}{ord bad:List Nat}{lp:Option (Nat×Nat)}
noncomputable def oF (ls:List aU) (salt:Nat) (ord:List Nat) (r:Row):Nat:=ord.getD (a6 ls (aT r.1 salt)) 0
noncomputable def pI (ls:List aU) (salt:Nat) (ord:List Nat) (rs:List Row) (k:Nat):List Row:=rs.filter fun r=>decide (oF ls salt ord r=k)
theorem rH (hI:bW bits ls) (hb:bits≤3) (ft:ord.length=ls.length) (iv:∀ i j,i<ord.length→j<ord.length→ord.getD i 0=ord.getD j 0→i=j) {j:Nat}(hj:j<ls.length):pI ls salt ord rs (ord.getD j 0)=bg ls salt rs j:=by
 unfold pI bg
 refine List.filter_congr fun r _=>?_
 have hp:=place_lt hI hb (eH r.1 salt)
 unfold oF
 by_cases q:a6 ls (aT r.1 salt)=j
 ·simp [q]
 ·have:ord.getD (a6 ls (aT r.1 salt)) 0≠ord.getD j 0:=fun z=>q (iv _ _ (pa ft hp) (pa ft hj) z)
  rw [decide_eq_false this,decide_eq_false q]
theorem ri.C9 (D:ri b salt bits ls rs ord tb bad lp) {j:Nat}(hj:j<ls.length) (g6:j∉bad) (h8:rs.length≤8):e8 b (ord.getD j 0)=3∧jO (eU b (ord.getD j 0)) 2 (aZ (bg ls salt rs j).length 2)∧(bg ls salt rs j).length≤100∧mG (eU b (ord.getD j 0)) 16 (bg ls salt rs j):=by
 obtain ⟨h3,hB,he⟩:=D.leaf j hj g6
 exact ⟨h3,hB.many.eU (by rw [ax];decide),by have:=iH ls salt rs j;exact CD h8 this,he.rows⟩
theorem nZ (D:ri b salt bits ls rs ord tb bad lp) (hI:bW bits ls) (h8:rs.length≤8) (ft:ord.length=ls.length) (iv:∀ i j,i<ord.length→j<ord.length→ord.getD i 0=ord.getD j 0→i=j):∀ ks:List Nat,(∀ k∈ks,∃ j,j<ls.length∧j∉bad∧k=ord.getD j 0)→mF b ks ((ks.map (pI ls salt ord rs)).flatten) true
 | [],_=>.nil
 | k::ks,h=>by
  obtain ⟨j,h1,h2,rfl⟩:=h k QB
  obtain ⟨a1,a2,a3,a4⟩:=D.C9 h1 h2 h8
  rw [QT,RJ,rH hI D.head.bits ft iv h1]
  exact .cons a1 a2 a3 a4 (nZ D hI h8 ft iv ks fun k hk=>h k (QD _ hk))
theorem pT (D:ri b salt bits ls rs ord tb bad lp) (hI:bW bits ls) (h8:rs.length≤8) (ft:ord.length=ls.length) (iv:∀ i j,i<ord.length→j<ord.length→ord.getD i 0=ord.getD j 0→i=j):∀ ks:List Nat,(∀ k∈ks,∃ j,j<ls.length∧k=ord.getD j 0)→(∃ k∈ks,∃ j∈bad,k=ord.getD j 0) →
  ∃ Ap,mF b ks Ap false∧Ap.Sublist ((ks.map (pI ls salt ord rs)).flatten)
 | [],_,h=>by obtain ⟨_,h,_⟩:=h;cases h
 | k::ks,h,he=>by
  obtain ⟨j,h1,rfl⟩:=h k QB
  by_cases hb:j∈bad
  ·exact ⟨[],.bad (D.bad j hb).2.1,List.nil_sublist _⟩
  ·obtain ⟨a1,a2,a3,a4⟩:=D.C9 h1 hb h8
   have qO:∃ k∈ks,∃ j∈bad,k=ord.getD j 0:=by
    obtain ⟨k,hk,j',Et,e⟩:=he
    rcases bS hk with z|z
    ·have fE:=(D.bad j' Et).1
     have:=iv j' j (pa ft fE) (pa ft h1) (e.symm.trans z)
     exact absurd (this▸Et) hb
    ·exact ⟨k,z,j',Et,e⟩
   obtain ⟨Ap,hL,hs⟩:=pT D hI h8 ft iv ks (fun k hk=>h k (QD _ hk)) qO
   refine ⟨_,.cons a1 a2 a3 a4 hL,?_⟩
   rw [QT,RJ,rH hI D.head.bits ft iv h1]
   exact List.Sublist.append (List.Sublist.refl _) hs
noncomputable def x7 (bits:Nat) (ls:List aU) (ord:List Nat):List Nat:=(range (2 ^ bits)).map (g8 bits ls ord)
theorem rT {ns:List Nat}{k:Nat}:k∈jq ns↔k<4096∧k∈ns:=by
 unfold jq
 rw [Sx,R8,List.contains_iff_mem]
theorem tJ (ns:List Nat):(jq ns).Nodup:=List.filter_sublist.nodup List.nodup_range
theorem pJ (hI:bW bits ls) (hb:bits≤3) (ho:∀ k,ord.getD k 0≤20) (r:Row):oF ls salt ord r∈jq (x7 bits ls ord):=by
 have hz:=eH r.1 salt
 refine rT.mpr ⟨by have:=ho (a6 ls (aT r.1 salt));unfold oF;exact Q8 this av,?_⟩
 refine fV ⟨aT r.1 salt / 2 ^ (32-bits),R8.mpr (lJ (Qx hb av) hz),?_⟩
 unfold g8 oF
 rw [mu hI (Qx hb av)]
theorem rF (hI:bW bits ls) (hb:bits≤3):∀ k∈jq (x7 bits ls ord),∃ j,j<ls.length∧k=ord.getD j 0:=fun k hk=>by
 obtain ⟨i,hi,rfl⟩:=dj (rT.mp hk).2
 have pf:=R8.mp hi
 refine ⟨a6 ls (i*2 ^ (32-bits)),place_lt hI hb ?_,rfl⟩
 have h1:i*2 ^ (32-bits)<2 ^ bits*2 ^ (32-bits):=Nat.mul_lt_mul_of_pos_right pf (Ti av)
 rw [← Vk,show bits+(32-bits)=32 by exact Gx hb] at h1
 exact h1
theorem o6 {xs ys:List Row}(hp:xs.Perm ys) (hn:(xs.map (·.1)).Nodup):fg xs=fg ys :=
 mr ((dX xs).trans (hp.trans (dX ys).symm)) (iF xs) (iF ys) (((dX xs).map _).nodup_iff.mpr hn)
theorem nA (L:cP X P) (D:ri b salt bits ls rs ord tb bad lp) (hI:bW bits ls) (hR:bH rs) (h8:rs.length≤8) (ho:∀ k,ord.getD k 0≤20) (ft:ord.length=ls.length) (iv:∀ i j,i<ord.length→j<ord.length→ord.getD i 0=ord.getD j 0→i=j) (lC:bad.length≤100) :
  cb X (n+13) 483 (gY salt ls rs bad lp) b (.ok (.bool true) b):=by
 have hb:=D.head.bits
 refine kh (n:=n+10) L (hI.ok hb) lC (nX hR) hR.nd (Q8 h8 av) (fun e he=>?_) ?_
 ·rcases i9 he with he|he
  ·obtain ⟨r,hr,rfl⟩:=dj he
   exact gR (n:=n+11) L (sF (n:=n+2) L D hI hR ho (.inl ⟨r,hr,rfl,rfl⟩))
  ·obtain ⟨o,Dh,rfl⟩:=dj he
   exact gR (n:=n+11) L (sF (n:=n+2) L D hI hR ho (.inr ⟨nM hR o Dh,rfl⟩))
 ·have hl:(x7 bits ls ord).length=2 ^ bits:=by unfold x7;rw [Qu,Q6]
  have ht:∀ i k,(x7 bits ls ord)[i]?=some k→TabAt b tb i k∧k<4096:=fun i k h=>by
   unfold x7 at h
   rw [QU] at h
   obtain ⟨j,h1,rfl⟩:=rO h
   obtain ⟨h2,h3⟩:=g7 h1
   rw [TF] at h3
   subst h3
   rw [Q6] at h2
   exact ⟨D.tab i h2,by have:=ho (a6 ls (i*2 ^ (32-bits)));unfold g8;exact Q8 this av⟩
  have Jp:=wR (oF ls salt ord) (jq (x7 bits ls ord)) rs (tJ _) fun r _=>pJ hI hb ho r
  change ((jq (x7 bits ls ord)).map (pI ls salt ord rs)).flatten.Perm rs at Jp
  have jb:((((jq (x7 bits ls ord)).map (pI ls salt ord rs)).flatten).map (·.1)).Nodup:=(Jp.map _).nodup_iff.mpr hR.nd
  have hlen:=Jp.length_eq
  by_cases h:bad=[]
  ·rw [if_pos h]
   have hL:=nZ D hI h8 ft iv (jq (x7 bits ls ord)) fun k hk=>by
    obtain ⟨j,h1,h2⟩:=rF hI hb k hk
    exact ⟨j,h1,by rw [h];simp,h2⟩
   have:=mc (n:=n+1) L D.size D.head hl ht hL ((cS (ag (aq aj (ae 8)) (ag (aH aa aj) (aD aa (ae 64))))) h8 hlen) jb
   rw [if_pos rfl,o6 Jp jb] at this
   exact jT (n:=n+11) (rs:=some (fg rs)) L this
  ·rw [if_neg h]
   obtain ⟨j,hj⟩:=List.exists_mem_of_ne_nil bad h
   obtain ⟨Qd,Fw,OH⟩:=D.bad j hj
   obtain ⟨r,hr⟩:=List.exists_mem_of_ne_nil _ OH
   have Jn:a6 ls (aT r.1 salt)=j:=by simpa using (jz hr).2
   obtain ⟨Ap,hL,hs⟩:=pT D hI h8 ft iv (jq (x7 bits ls ord)) (rF hI hb) ⟨_,pJ hI hb ho r,j,hj,by unfold oF;rw [Jn]⟩
   have:=mc (n:=n+1) L D.size D.head hl ht hL (by have:=hs.length_le;exact (dC (ag (aq aj (ae 8)) (ag (aH az aj) (ag (aq aa az) (aD aa (ae 64)))))) h8 hlen this) ((hs.map _).nodup jb)
   rw [if_neg av] at this
   exact jT (n:=n+11) (rs:=none) L this
end
section
variable {salt bits:Nat}{ls:List aU}{rs:List Row}{z:Int}
theorem bH.rw {rs:List Row}(h:bH rs) (ls:List aU) (salt k:Nat):BJ (bg ls salt rs k):=fun r hr=>⟨h.nm (jz hr).1,h.num r (jz hr).1⟩
theorem qY {b:Array UInt8}{B:Nat}{q:List Row}(hB:i5 b B salt q) (hb:eG b (B*256+16) (hJ salt q jg)) (hr:BJ q):oR (eU b B) none salt jg q:=Bu q jg fT.zero hB.len hb hr
theorem ky {b:Array UInt8}{k i:Nat}{x:List UInt8}(h:k*256<i∨i+x.length≤k*256):e8 (wr b i x) k=e8 b k:=by
 unfold e8
 rw [ni _ _ av,ni _ _ av,qC,if_neg (by exact (dC (ag (j6 (aD (cD aj 256) aa) (aq (ak aa az) (cD aj 256))) (bI (dB (aq aa (ak (cD aj 256) (ae 0))) (aD (ak (cD aj 256) (ae 0)) (ak aa az)))))) h)]
theorem qW {b:Array UInt8}{tb:Nat}(h:eG b 0 (bU bits salt ls rs tb)) (hb:bits≤3) (hs:salt<4294967296) (h8:rs.length≤8) (hl:ls.length≤8) (ht:tb≤20):BQ b bits salt rs.length (4+ls.length) tb:=by
 have h':=h
 unfold bU ix at h'
 refine ⟨eG.first (k:=0) (l:=[]) h'.left.left.left.left.left av,eG.eU (k:=0) (i:=0) h ?_,hb,hs,by exact Q8 h8 av,by exact (dW (ag (aq aa (ae 8)) (aD (ak (ae 4) aa) (ae 4294967296)))) hl,by exact Q8 ht av⟩
 unfold ix
 simp only [QA,ax,QC,QP];decide
theorem nO {m:Nat}:∀ i j,i<(bJ z m).length→j<(bJ z m).length→(bJ z m).getD i 0=(bJ z m).getD j 0→i=j:=fun i j hi hj h=>by
 rw [gz] at hi hj
 have e:∀ i,i<m→(bJ z m).getD i 0=4+(if z.fmod 2=0 then i else m-1-i):=fun i hi=>by
  unfold bJ
  rw [Qw,QU,Tn hi];rfl
 rw [e i hi,e j hj] at h
 split at h<;>(first|exact (cS (ag (aH (ak (ae 4) aa) (ak (ae 4) aj)) (aH aa aj))) h|exact (Lq 3 0 [b9 az (ae 1),b9 a7 aa,b9 a7 aj] (ag (aD aa az) (ag (aD aj az) (ag (aH (ak (ae 4) cM) (ak (ae 4) gh)) (aH aa aj))))) hi hj h)
theorem vf {m i:Nat}(hi:i<m) (hm:m≤8):4≤(bJ z m).getD i 0:=by
 have pf:i<(bJ z m).length:=by rw [gz];exact hi
 rw [Qw,QI pf]
 exact (jS hm _ (SV pf)).1
structure P0 (b:Array UInt8) (salt bits:Nat) (ls:List aU) (rs:List Row) (z:Int):Prop where
 head:eG b 0 (bU bits salt ls rs (nC z))
 tab:eG b (nC z*256) (cE bits ls (bJ z ls.length) (2 ^ bits))
 leaf:∀ k,k<ls.length→i5 b ((bJ z ls.length).getD k 0) salt (bg ls salt rs k)
 body:∀ k,k<ls.length→eG b ((bJ z ls.length).getD k 0*256+16) (hJ salt (bg ls salt rs k) jg)
theorem EI (hI:bW bits ls) (hb:bits≤3) (hR:bH rs) (h8:rs.length≤8):P0 (kJ salt bits ls rs z #[]) salt bits ls rs z∧∀ k,k<ls.length→e8 (kJ salt bits ls rs z #[]) ((bJ z ls.length).getD k 0)=3:=by
 have kZ:2 ^ bits≤8:=by
  have:(2:Nat) ^ bits≤2 ^ 3:=Q3 av hb
  exact this
 have uj:ls.length≤8:=Qx hI.len kZ
 have hd:∀ l∈ls,l.1<256:=fun l hl=>by have:=hI.dep l hl;exact yQ hb this
 have vD:=qp z
 have Av:(bU bits salt ls rs (nC z)).length=18:=by
  unfold bU ix
  simp only [QA,ax,QC,QP]
 have uh:=fk bits ls (bJ z ls.length) (2 ^ bits)
 have Js:=fun i (hi:i<ls.length)=>vf (z:=z) hi uj
 have leaf:∀ k,k<ls.length→i5 (kJ salt bits ls rs z #[]) ((bJ z ls.length).getD k 0) salt (bg ls salt rs k)∧eG (kJ salt bits ls rs z #[]) ((bJ z ls.length).getD k 0*256+16) (hJ salt (bg ls salt rs k) jg)∧e8 (kJ salt bits ls rs z #[]) ((bJ z ls.length).getD k 0)=3:=fun k hk=>by
  have:=uC (ls:=ls) (salt:=salt) hR h8 (nO (z:=z) (m:=ls.length)) ls 0 (wr (wr #[] 0 (bY (bU bits salt ls rs (nC z)))) (nC z*256) (bY (cE bits ls (bJ z ls.length) (2 ^ bits)))) k ls[k] hd (by rw [gz,Sk];exact QV _) (QI hk)
  rw [Sk] at this
  exact i5.of hR h8 (hd _ (SV hk)) this
 refine ⟨⟨?_,?_,fun k hk=>(leaf k hk).1,fun k hk=>(leaf k hk).2.1⟩,fun k hk=>(leaf k hk).2.2⟩
 ·refine jG hR h8 ls 0 _ hd ((eG.wrote _ _ _).other (.inl (by rw [Av];exact (xC (ag (dB (cu (cn (aJ 1) bc) (aL aa)) (dB (aq (ae 1) aa) (aq aa (ae 3)))) (aq (ak (ae 0) (ae 18)) (cD aa 256)))) vD))) fun i h1 h2=>.inl ?_
  have:=Js i (CC h2)
  rw [Av];exact (dW (ag (aq (ae 4) aa) (aq (ak (ae 0) (ae 18)) (cD aa 256)))) this
 ·refine jG hR h8 ls 0 _ hd (eG.wrote _ _ _) fun i h1 h2=>.inl ?_
  have:=Js i (CC h2)
  rw [uh];exact (Lq 3 1 [] (ag (aq aj (ae 8)) (ag (dB (cu (cn (aJ 1) bc) (aL aa)) (dB (aq (ae 1) aa) (aq aa (ae 3)))) (ag (aq (ae 4) az) (aq (ak (cD aa 256) (dO 4 aj)) (cD az 256)))))) kZ vD this
end
section
variable {salt bits:Nat}{ls:List aU}{rs:List Row}{z:Int}
theorem AP {u o a v:Nat}(h1:u≤20000) (h2:a≤184) (h3:o≤20) (h4:v≤max u (o*256+a+2)+256):v≤1000000:=by
 have h5:=Nat.max_le.mpr ⟨h1,show o*256+a+2≤20000 from Qx (Nat.add_le_add_right (Nat.add_le_add (Nat.mul_le_mul_right 256 h3) h2) 2) av⟩
 exact Qx h4 (Qx (Nat.add_le_add_right h5 256) av)
theorem By (hs:salt<4294967296) (hI:bW bits ls) (hb:bits≤3) (hR:bH rs) (h8:rs.length≤8) (h1:0<rs.length) :
  ri (kJ salt bits ls rs z #[]) salt bits ls rs (bJ z ls.length) (nC z) [] none ∧
  ri (uw salt bits ls rs z #[]) salt bits ls rs (bJ z ls.length) (nC z) [] (some (eY salt ls rs z,eI salt rs z % 4)) ∧
  ri (Az salt bits ls rs z #[]) salt bits ls rs (bJ z ls.length) (nC z) [eY salt ls rs z] (some (eY salt ls rs z,eI salt rs z % 4)):=by
 have kZ:2 ^ bits≤8:=by
  have:(2:Nat) ^ bits≤2 ^ 3:=Q3 av hb
  exact this
 have uj:ls.length≤8:=Qx hI.len kZ
 obtain ⟨F,H⟩:=EI (salt:=salt) (z:=z) hI hb hR h8
 have hsz:=sC (salt:=salt) (z:=z) (b:=#[]) hI hb hR h8 (RC _)
 have vD:=qp z
 have Av:(bU bits salt ls rs (nC z)).length=18:=by
  unfold bU ix
  simp only [QA,ax,QC,QP]
 have uh:=fk bits ls (bJ z ls.length) (2 ^ bits)
 have Df:=rN z h1
 have HG:mK rs z∈rs:=by
  unfold mK
  rw [Qw,QI Df.2]
  exact SV Df.2
 have vF:eY salt ls rs z<ls.length:=place_lt hI hb (eH _ _)
 have HH:mK rs z∈bg ls salt rs (eY salt ls rs z):=yt HG
 have FA:bL salt (mK rs z).1=eI salt rs z % 4:=rfl
 have Js:=fun i (hi:i<ls.length)=>vf (z:=z) hi uj
 have iv:=nO (z:=z) (m:=ls.length)
 have ft:=gz z ls.length
 have HI:∀ k,(bJ z ls.length).getD k 0≤20:=iK fun k hk=>by have:=jS (z:=z) uj k hk;exact CB uj vF ft this
 have uo:16≤lh salt ls rs z:=by
  have:=sz salt (eI salt rs z % 4) (bg ls salt rs (eY salt ls rs z)) jg fT.zero (rW _) ⟨_,HH,FA⟩
  exact this
 have qP:lh salt ls rs z≤184:=iK (oo hR h8 (eY salt ls rs z)) _
 have tabOf:∀ {b:Array UInt8},eG b (nC z*256) (cE bits ls (bJ z ls.length) (2 ^ bits))→∀ i,i<2 ^ bits→TabAt b (nC z) i (g8 bits ls (bJ z ls.length) i):=fun h i hi=>(y2 _ i h hi).tab
 refine ⟨⟨by exact Qx hsz av,qW F.head hb hs h8 uj (vo vD),tabOf F.tab,fun k hk _=>⟨H k hk,F.leaf k hk,qY (F.leaf k hk) (F.body k hk) (hR.rw ls salt k)⟩,(fun k hk=>nomatch hk),(fun _ _ h=>nomatch h)⟩,?_⟩
 have e2:uw salt bits ls rs z #[]=wr (kJ salt bits ls rs z #[]) ((bJ z ls.length).getD (eY salt ls rs z) 0*256+lh salt ls rs z) (bY (aZ (lh salt ls rs z) 2)):=rfl
 have e3:Az salt bits ls rs z #[]=wr (uw salt bits ls rs z #[]) ((bJ z ls.length).getD (eY salt ls rs z) 0*256) (bY [gd z]):=rfl
 have Fx:((bg ls salt rs (eY salt ls rs z)).foldl (bz salt) jg).fs.getD (eI salt rs z % 4) 0=lh salt ls rs z:=rfl
 have Bd:=dz (kJ salt bits ls rs z #[]) ((bJ z ls.length).getD (eY salt ls rs z) 0*256+lh salt ls rs z) (bY (aZ (lh salt ls rs z) 2))
 have Ef:(bY (aZ (lh salt ls rs z) 2)).length=2:=by rw [aK,ax]
 have Jk:(bY [gd z]).length=1:=by rw [aK];rfl
 rw [Ef,← e2] at Bd
 have Hw:=dz (uw salt bits ls rs z #[]) ((bJ z ls.length).getD (eY salt ls rs z) 0*256) (bY [gd z])
 rw [Jk,← e3] at Hw
 have Jq:=Js _ vF
 have Fq:=HI (eY salt ls rs z)
 have L1:=F.leaf _ vF
 have hd2:=F.head.other (i:=(bJ z ls.length).getD (eY salt ls rs z) 0*256+lh salt ls rs z) (x:=bY (aZ (lh salt ls rs z) 2)) (.inl (by rw [Av];exact (dC (ag (aq (ae 16) aj) (ag (aq aj (ae 184)) (ag (aH az aj) (ag (aq (ae 4) aa) (ag (aq aa (ae 20)) (aq (ak (ae 0) (ae 18)) (ak (cD aa 256) aj)))))))) uo qP Fx Jq Fq))
 have KG:=F.tab.other (i:=(bJ z ls.length).getD (eY salt ls rs z) 0*256+lh salt ls rs z) (x:=bY (aZ (lh salt ls rs z) 2)) (.inl (by rw [uh];exact (Lq 5 1 [] (ag (aq aj (ae 8)) (ag (dB (cu (cn (aJ 1) bc) (aL aa)) (dB (aq (ae 1) aa) (aq aa (ae 3)))) (ag (aq (ae 16) a7) (ag (aq a7 (ae 184)) (ag (aH cM a7) (ag (aq (ae 4) az) (ag (aq az (ae 20)) (aq (ak (cD aa 256) (dO 4 aj)) (ak (cD az 256) a7)))))))))) kZ vD uo qP Fx Jq Fq))
 have Il:=xp (b:=kJ salt bits ls rs z #[]) (k:=(bJ z ls.length).getD (eY salt ls rs z) 0) (bg ls salt rs (eY salt ls rs z)) jg fT.zero L1.len (F.body _ vF) (hR.rw ls salt _) Fx (.inr ⟨_,HH,FA⟩)
 have Jw:=ky (b:=kJ salt bits ls rs z #[]) (k:=(bJ z ls.length).getD (eY salt ls rs z) 0) (i:=(bJ z ls.length).getD (eY salt ls rs z) 0*256+lh salt ls rs z) (x:=bY (aZ (lh salt ls rs z) 2)) (.inl ((dC (ag (aq (ae 16) aj) (ag (aq aj (ae 184)) (ag (aH az aj) (aD (cD aa 256) (ak (cD aa 256) aj)))))) uo qP Fx))
 have MA:=L1.other (i:=(bJ z ls.length).getD (eY salt ls rs z) 0*256+lh salt ls rs z) (x:=bY (aZ (lh salt ls rs z) 2)) (.inr ((dC (ag (aq (ae 16) aj) (ag (aq aj (ae 184)) (ag (aH az aj) (aq (ak (cD aa 256) (ae 16)) (ak (cD aa 256) aj)))))) uo qP Fx))
 have o2:∀ k,k<ls.length→k≠eY salt ls rs z→i5 (uw salt bits ls rs z #[]) ((bJ z ls.length).getD k 0) salt (bg ls salt rs k)∧eG (uw salt bits ls rs z #[]) ((bJ z ls.length).getD k 0*256+16) (hJ salt (bg ls salt rs k) jg)∧e8 (uw salt bits ls rs z #[]) ((bJ z ls.length).getD k 0)=3:=fun k hk cy=>by
  have Ep:(bJ z ls.length).getD k 0≠(bJ z ls.length).getD (eY salt ls rs z) 0:=fun q=>cy (iv k _ (pa ft hk) (ju vF ft) q)
  have hlen:=(F.leaf k hk).len
  rw [e2]
  refine ⟨(F.leaf k hk).other (by rw [Ef];exact (dC (ag (aq (ae 16) az) (ag (aq az (ae 184)) (ag (bI (aH aa aj)) (j6 (aq (ak (ak (cD aj 256) az) (ae 2)) (ak (cD aa 256) (ae 2))) (aq (ak (cD aa 256) (ae 16)) (ak (cD aj 256) az))))))) uo qP Ep),(F.body k hk).other (by rw [Ef];exact (xD (ag (aq (ae 16) a7) (ag (aq a7 (ae 184)) (ag (aH cM a7) (ag (bI (aH aa az)) (ag (aq (ak (ae 16) aj) (ae 256)) (j6 (aq (ak (ak (cD aa 256) (ae 16)) aj) (ak (cD az 256) a7)) (aq (ak (ak (cD az 256) a7) (ae 2)) (ak (cD aa 256) (ae 16)))))))))) uo qP Fx Ep hlen),?_⟩
  rw [ky (by rw [Ef];exact (dC (ag (aq (ae 16) az) (ag (aq az (ae 184)) (ag (bI (aH aa aj)) (j6 (aD (cD aa 256) (ak (cD aj 256) az)) (aq (ak (ak (cD aj 256) az) (ae 2)) (cD aa 256))))))) uo qP Ep)]
  exact H k hk
 rw [← e2] at hd2 KG Il Jw MA
 have Hr:∀ k,k≠eY salt ls rs z→tV (some (eY salt ls rs z,eI salt rs z % 4)) k=none:=fun k h=>if_neg h
 have Km:tV (some (eY salt ls rs z,eI salt rs z % 4)) (eY salt ls rs z)=some (eI salt rs z % 4):=if_pos rfl
 refine ⟨⟨AP hsz qP Fq Bd,qW hd2 hb hs h8 uj (vo vD),tabOf KG,fun k hk _=>?_,(fun k hk=>nomatch hk),fun pl cl h=>?_⟩,?_⟩
 ·by_cases q:k=eY salt ls rs z
  ·rw [q,Km]
   exact ⟨by rw [Jw];exact H _ vF,MA,Il⟩
  ·obtain ⟨a1,a2,a3⟩:=o2 k hk q
   rw [Hr k q]
   exact ⟨a3,a1,qY a1 a2 (hR.rw ls salt k)⟩
 ·cases h
  exact .inr ⟨_,HH,FA⟩
 have M8:=hd2.other (i:=(bJ z ls.length).getD (eY salt ls rs z) 0*256) (x:=bY [gd z]) (.inl (by rw [Av];exact (dW (ag (aq (ae 4) aa) (ag (aq aa (ae 20)) (aq (ak (ae 0) (ae 18)) (cD aa 256))))) Jq Fq))
 have MK:=KG.other (i:=(bJ z ls.length).getD (eY salt ls rs z) 0*256) (x:=bY [gd z]) (.inl (by rw [uh];exact (Lq 3 1 [] (ag (aq aj (ae 8)) (ag (dB (cu (cn (aJ 1) bc) (aL aa)) (dB (aq (ae 1) aa) (aq aa (ae 3)))) (ag (aq (ae 4) az) (ag (aq az (ae 20)) (aq (ak (cD aa 256) (dO 4 aj)) (cD az 256))))))) kZ vD Jq Fq))
 have g6:=v7 z
 have OZ:e8 (Az salt bits ls rs z #[]) ((bJ z ls.length).getD (eY salt ls rs z) 0)=gd z:=by
  rw [e3]
  exact eG.first (l:=[]) (eG.wrote _ _ _) g6.2
 rw [← e3] at M8 MK
 refine ⟨Qx (nF hsz qP Fq Bd Hw) av,qW M8 hb hs h8 uj (vo vD),tabOf MK,fun k hk OF=>?_,fun k hk=>?_,fun pl cl h=>?_⟩
 ·have q:k≠eY salt ls rs z:=fun q=>OF (by rw [q];exact QO.mpr rfl)
  have Ep:(bJ z ls.length).getD k 0≠(bJ z ls.length).getD (eY salt ls rs z) 0:=fun w=>q (iv k _ (pa ft hk) (ju vF ft) w)
  obtain ⟨a1,a2,a3⟩:=o2 k hk q
  have hlen:=a1.len
  have b1:=a1.other (i:=(bJ z ls.length).getD (eY salt ls rs z) 0*256) (x:=bY [gd z]) (by rw [Jk];exact (cS (ag (bI (aH aa aj)) (j6 (aq (ak (cD aj 256) (ae 1)) (ak (cD aa 256) (ae 2))) (aq (ak (cD aa 256) (ae 16)) (cD aj 256))))) Ep)
  have b2:=a2.other (i:=(bJ z ls.length).getD (eY salt ls rs z) 0*256) (x:=bY [gd z]) (by rw [Jk];exact (dC (ag (bI (aH aa aj)) (ag (aq (ak (ae 16) az) (ae 256)) (j6 (aq (ak (ak (cD aa 256) (ae 16)) az) (cD aj 256)) (aq (ak (cD aj 256) (ae 1)) (ak (cD aa 256) (ae 16))))))) Ep hlen)
  have b3:=ky (b:=uw salt bits ls rs z #[]) (k:=(bJ z ls.length).getD k 0) (i:=(bJ z ls.length).getD (eY salt ls rs z) 0*256) (x:=bY [gd z]) (by rw [Jk];exact (cS (ag (bI (aH aa aj)) (j6 (aD (cD aa 256) (cD aj 256)) (aq (ak (cD aj 256) (ae 1)) (cD aa 256))))) Ep)
  rw [← e3] at b1 b2 b3
  rw [Hr k q]
  exact ⟨by rw [b3];exact a3,b1,qY b1 b2 (hR.rw ls salt k)⟩
 ·cases bq hk
  exact ⟨vF,by rw [OZ];exact g6.1,fun w=>by rw [w] at HH;cases HH⟩
 ·cases h
  exact .inl (QO.mpr rfl)
end
section
variable {X:Cx}{P:bj}{n:Nat}
theorem x5 (L:cP X P):E9 X (n+13):=fun salt bits rs z ls hs hb hR h8 h1 hI=>by
 have kZ:2 ^ bits≤8:=by
  have:(2:Nat) ^ bits≤2 ^ 3:=Q3 av hb
  exact this
 have uj:ls.length≤8:=Qx hI.len kZ
 obtain ⟨D1,D2,D3⟩:=By (z:=z) hs hI hb hR h8 h1
 have ho:∀ k,(bJ z ls.length).getD k 0≤20:=iK fun k hk=>by have:=jS (z:=z) uj k hk;exact (cS (ag (aq aj (ae 8)) (ag (dB (aq (ae 4) aa) (aD aa (ak (ae 4) aj))) (aq aa (ae 20))))) uj this
 have ft:=gz z ls.length
 have iv:=nO (z:=z) (m:=ls.length)
 exact ⟨nA L D1 hI hR h8 ho ft iv av,nA L D2 hI hR h8 ho ft iv av,nA L D3 hI hR h8 ho ft iv (by rw [Sl];decide)⟩
end
theorem lW (h:QL):∀ as,(bP h as).In h
 | []=>fun a o e=>nomatch e
 | c::as=>fun a o e=>by
  unfold bP at e
  cases q:h.get? c with
  | none=>rw [q] at e;exact lW h as a o e
  | some ob =>
   rw [q] at e
   dsimp only at e
   rw [Ro] at e
   by_cases z:(a==c)=true
   ·rw [z] at e
    cases e
    rw [beq_iff_eq.mp z];exact q
   ·rw [Bool.eq_false_iff.mpr z] at e
    exact lW h as a o e
theorem l5.d {K:U3}{C:Qt}{fields:List Qy}{init:Qt}(h:l5 K C fields init=true):kG K C fields init:=by
 unfold l5 at h
 simp only [R5,R4,decide_eq_true_eq] at h
 obtain ⟨⟨⟨⟨⟨⟨⟨h1,h2⟩,h3⟩,h4⟩,h5⟩,h6⟩,h7⟩,h8⟩:=h
 refine ⟨fun nm hn=>?_,h2,h3,h4,fun nm hn=>(h1 nm hn).2,h5,h6,h7,h8⟩
 obtain ⟨⟨a1,a2⟩,a3⟩:=h1 nm hn
 cases q:findIn K (.ref C) nm with
 | none=>rw [q] at a2;exact (Bool.false_ne_true a2).elim
 | some attr=>rw [q] at a2;exact ⟨a1,attr,rfl,a2⟩
theorem kU.d {K:U3}{C:Qt}{p:Qy×Qt}(h:kU K C p=true):mE K C p.1 p.2:=by
 unfold kU at h
 simp only [R5,decide_eq_true_eq] at h
 exact ⟨h.1.1.1,h.1.1.2,h.1.2,h.2⟩
theorem codeB.d {h:QL}{cd:Qr}{q:Qy}(e:codeB h cd q=true):h.CodeRec cd q:=by
 unfold codeB at e
 split at e
 ·rename_i c
  split at e
  ·rename_i o ho
   split at e
   ·rename_i vs hv
    split at e
    ·rename_i q' t ht
     rw [of_decide_eq_true e] at ht
     exact ⟨c,o,vs,t,rfl,ho,hv,ht⟩
    ·cases e
   ·cases e
  ·cases e
 ·cases e
theorem m8 {α:Type}{r:α}{P:Prop}(h:(none:Option α)=some r):P:=nomatch h
theorem EJ {h:QL}{x:Option R3}{r:UA×FuncBody×QM×List (Qy×Qt)×Qt×Qt×Qr×Bool} (e:LP h x=some r):∃ o fd,x=some o∧o.data=.func fd∧LO h fd=r:=by
 rcases x with _|⟨c,d,dt,s⟩
 ·exact m8 e
 ·cases dt with
  | func fd=>exact ⟨_,fd,rfl,rfl,Option.some.inj e⟩
  | _=>exact m8 e
theorem int_inv {x:Option Qr}{i:Int}(e:Ec x=some i):∃ t,x=some (.int i t):=by
 rcases x with _|v
 ·exact m8 e
 ·cases v with
  | int j t=>exact ⟨t,congrArg (fun j=>some (Qr.int j t)) (Option.some.inj e)⟩
  | _=>exact m8 e
theorem tW {names:List Qy}{vs:List Qr}(hl:vs.length=names.length):∀ n∈names,((names.zip vs).lookup n).isSome=true:=by
 induction names generalizing vs with
 | nil=>intro n h;cases h
 | cons a names ih =>
  cases vs with
  | nil=>simp at hl
  | cons v vs =>
   intro n hn
   rw [Si,Ro]
   by_cases q:(n==a)=true
   ·rw [q];rfl
   ·rw [Bool.eq_false_iff.mpr q]
    rcases bS hn with rfl|hn
    ·exact absurd (by simp) q
    ·exact ih (by simpa using hl) n hn
theorem pj {names:List Qy}{vs:List Qr}(hn:names.Nodup) (hl:vs.length=names.length):names.filterMap (fun n=>((names.zip vs).lookup n).map (n,·))=names.zip vs:=by
 have gen:∀ (names:List Qy) (vs:List Qr) (l:List (Qy×Qr)),names.Nodup→vs.length=names.length→(∀ n v,(n,v)∈names.zip vs→l.lookup n=some v)→names.filterMap (fun n=>(l.lookup n).map (n,·))=names.zip vs:=fun names=>by
  induction names with
  | nil=>intro vs l _ _ _;rfl
  | cons a names ih =>
   intro vs l hn hl h
   cases vs with
   | nil=>simp at hl
   | cons v vs =>
    rw [List.filterMap_cons,h a v (by simp)]
    simp only [Vq,Si]
    rw [ih vs l (RH.mp hn).2 (by simpa using hl) fun n v h'=>h n v (by simp [h'])]
 refine gen names vs _ hn hl fun n v hm=>?_
 have LL:∀ (names:List Qy) (vs:List Qr),names.Nodup→(n,v)∈names.zip vs→(names.zip vs).lookup n=some v:=fun names=>by
  induction names with
  | nil=>intro vs _ h;simp at h
  | cons a names ih =>
   intro vs hn h
   cases vs with
   | nil=>simp at h
   | cons u vs =>
    rw [Si] at h ⊢
    rw [Ro]
    rcases bS h with e|e
    ·cases e;simp
    ·have cy:(n==a)=false:=by
      rw [beq_eq_false_iff_ne]
      rintro rfl
      exact (RH.mp hn).1 (Ue e).1
     rw [cy]
     exact ih vs (RH.mp hn).2 e
 exact LL names vs hn hm
theorem BY {α:Type}{c:Prop} [Decidable c] {a b x:α}(h:¬ c) (k:b=x):ite c a b=x:=(if_neg h).trans k
theorem z8 {nm qn:Qy}{ar:List Arg}{kd:List (Option QR)} {df:List QR}{b:FuncBody}{sc:QM}{gl:Qt}{cl:List (Qy×Qt)} {kw dc pm:Qr}{an:Option Qt}{co ct:Qr}{bu:Qt}{vs:List Qr}{bs:List (Qy×Qr)}
 (hl:vs.length=(ar.map (·.arg)).length) (hm:((ar.map (·.arg)).filter fun n=>(((ar.map (·.arg)).zip vs).lookup n).isNone)=[])
 (hb:((ar.map (·.arg)).filterMap fun n=>((((ar.map (·.arg)).zip vs)).lookup n).map fun v=>(n,v))=bs) :
  bindArgs ⟨nm,qn,⟨[],ar,none,[],kd,none,df⟩,b,sc,gl,cl,.none,kw,dc,pm,an,co,ct,bu⟩ ⟨vs,[]⟩=pure bs:=by
 refine BY ?_ (BY ?_ ?_)
 ·show ¬ ((decide (vs.length > (ar.map (·.arg)).length)&&true)=true)
  rw [hl];simp
 ·show ¬ ((!(List.isEmpty ((take ((ar.map (·.arg)).length-(drop (0-(ar.map (·.arg)).length) ([]:List Qr)).length) (ar.map (·.arg))).filter fun n=>(((ar.map (·.arg)).zip vs).lookup n).isNone)))=true)
  rw [List.drop_nil]
  show ¬ ((!(List.isEmpty ((take (ar.map (·.arg)).length (ar.map (·.arg))).filter _)))=true)
  rw [List.take_length,hm];exact Bool.false_ne_true
 ·show (forIn ((drop _ _).zip (drop (0-(ar.map (·.arg)).length) ([]:List Qr))) _ _>>=_)=_
  rw [List.drop_nil,List.zip_nil_right]
  show (pure (List.filterMap _ (_++[])):Sem (List (Qy×Qr)))=_
  rw [Sj]
  exact congrArg pure hb
theorem sW {fd:RD}{names:List Qy}{vs:List Qr}(h1:fd.params.posonlyargs=[]) (h2:fd.params.args.map (·.arg)=names) (h3:fd.params.vararg=none) (h4:fd.params.kwonlyargs=[]) (h5:fd.params.kwarg=none) (hd:fd.defaults=.none) (hn:names.Nodup) (hl:vs.length=names.length) :
  bindArgs fd ⟨vs,[]⟩=pure (names.zip vs):=by
 have hm:(names.filter fun n=>((names.zip vs).lookup n).isNone)=[]:=List.filter_eq_nil_iff.mpr fun n h=>by
  have:=tW hl n h
  rw [Option.isSome_iff_ne_none] at this
  simpa using this
 have hb:=pj hn hl
 subst h2
 rw [← hb]
 show bindArgs ⟨fd.name,fd.qualname,⟨fd.params.posonlyargs,fd.params.args,fd.params.vararg,fd.params.kwonlyargs,fd.params.kw_defaults,fd.params.kwarg,fd.params.defaults⟩,fd.body,fd.scope,fd.globals,fd.closure,fd.defaults,fd.kwdefaults,fd.doc,fd.pyModule,fd.annotations,fd.code,fd.closureTuple,fd.builtins⟩ _=_
 rw [h1,h3,h4,h5,hd]
 exact z8 hl hm rfl
noncomputable def nG (t:Rr) (names:List Qy):Bool:=(du t).posonlyargs.isEmpty&&(du t).vararg.isNone&&(du t).kwonlyargs.isEmpty&&(du t).kwarg.isNone&&decide ((du t).args.map (·.arg)=names)&&decide names.Nodup&&!(aw t).isCoroutine&&!(aw t).isGenerator&&((aw t).kind==.function)
structure Simp (t:Rr) (names:List Qy):Prop where
 p:(du t).posonlyargs=[]
 v:(du t).vararg=none
 k:(du t).kwonlyargs=[]
 w:(du t).kwarg=none
 a:(du t).args.map (·.arg)=names
 n:names.Nodup
 co:(aw t).isCoroutine=false
 gen:(aw t).isGenerator=false
 kind:(aw t).kind=.function
theorem nG.d {t:Rr}{names:List Qy}(h:nG t names=true):Simp t names:=by
 unfold nG at h
 simp only [R5,List.isEmpty_iff,Option.isNone_iff_eq_none,decide_eq_true_eq,S0,beq_iff_eq] at h
 obtain ⟨⟨⟨⟨⟨⟨⟨⟨h1,h2⟩,h3⟩,h4⟩,h5⟩,h6⟩,h7⟩,h8⟩,h9⟩:=h
 exact ⟨h1,h2,h3,h4,h5,h6,h7,h8,h9⟩
theorem uy:(vS.all fun e=>nG e.2.1 e.2.2)=true:=by decide +kernel
theorem vz {α β:Type}{l:List α}{f g:α→β}(e:l.map f=l.map g) {a:α}(h:a∈l):f a=g a:=List.map_inj_left.mp e a h
section
variable {h:QL}(O:obs h=due)
include O
theorem ok.b (i:Nat):(obs h).1.getD i false=due.1.getD i false:=congrArg (fun x:Ai=>x.1.getD i false) O
theorem ok.o (i:Nat):(obs h).2.2.1.getD i none=due.2.2.1.getD i none:=congrArg (fun x:Ai=>x.2.2.1.getD i none) O
theorem ok.c (i:Nat):(obs h).2.2.2.2.2.2.1.getD i none=due.2.2.2.2.2.2.1.getD i none:=congrArg (fun x:Ai=>x.2.2.2.2.2.2.1.getD i none) O
theorem ok.ns:h.isNs QY=true:=ok.b O 0
theorem ok.nb:h.isNs Ra=true:=ok.b O 1
theorem ok.c0:kG (bP h bT) 138 (eE 0) 107:=l5.d (ok.b O 2)
theorem ok.c1:kG (bP h bT) 173 (eE 1) 163:=l5.d (ok.b O 3)
theorem ok.c2:kG (bP h bT) 289 (eE 2) 286:=l5.d (ok.b O 4)
theorem ok.c3:kG (bP h bT) 317 (eE 3) 314:=l5.d (ok.b O 5)
theorem ok.c4:kG (bP h bT) 416 fY 335:=l5.d (ok.b O 6)
theorem ok.vm:∀ p∈uX,mE (bP h bT) 416 p.1 p.2:=fun p hp=>kU.d (R4.mp (ok.b O 7) p hp)
theorem ok.am:mE (bP h bT) 416 "add" 378:=kU.d (p:=("add",378)) (ok.b O 8)
theorem ok.mm:∀ p∈pR,mE (bP h bT) 138 p.1 p.2:=fun p hp=>kU.d (R4.mp (ok.b O 9) p hp)
theorem ok.ck:keepIn (bP h bT) (.ref 51)=true:=ok.b O 10
theorem ok.fn {e:Qt×Rr×Qr}(he:e∈kr):∃ o fd,h.get? e.1=some o∧o.data=.func fd∧LO h fd=(du e.2.1,.stmts (bodyOf e.2.1),aw e.2.1,[],QY,Ra,e.2.2,true):=EJ (vz (l:=kr) (f:=fun e=>LP h (h.get? e.1)) (g:=fun e=>some (du e.2.1,.stmts (bodyOf e.2.1),aw e.2.1,[],QY,Ra,e.2.2,true)) (congrArg (fun x:Ai=>x.2.1) O) he)
theorem ok.FI:mY h:=⟨_,_,_,_,_,_,_,_,_,_,_,_,_,ok.o O 0⟩
theorem ok.gf:∀ p∈su++yu,h.nsMap QY p.1=some (.ref p.2):=fun p hp=>vz (l:=su++yu) (f:=fun p=>h.nsMap QY p.1) (g:=fun p=>some (.ref p.2)) (congrArg (fun x:Ai=>x.2.2.2.1) O) hp
theorem ok.blt:∀ p∈sT,(h.nsMap QY p.1,h.nsMap Ra p.1)=(none,some p.2):=fun p hp=>vz (l:=sT) (f:=fun p=>(h.nsMap QY p.1,h.nsMap Ra p.1)) (g:=fun p=>(none,some p.2)) (congrArg (fun x:Ai=>x.2.2.2.2.1) O) hp
theorem ok.gi:∀ p∈oh,∃ t,h.nsMap QY p.1=some (.int p.2 t):=fun p hp=>int_inv (vz (l:=oh) (f:=fun p=>Ec (h.nsMap QY p.1)) (g:=fun p=>some p.2) (congrArg (fun x:Ai=>x.2.2.2.2.2.1) O) hp)
end
noncomputable def BZ:List (Rr×List Qy):=[(bO (top 48) 0,[a9,"shape"]),(bO (top 47) 0,[a9,"kind","block","bonus"])]
theorem yl:(BZ.all fun e=>nG e.1 e.2)=true:=by decide +kernel
section
variable {X:Cx}{h:QL}
theorem qI (O:obs h=due) (hk:∀ a ob,h.get? a=some ob→X.B.get? a=some ob) {a:Qt}{t:Rr}{names:List Qy}(he:(a,t,Qr.none)∈kr) (S:Simp t names):∃ fd,l8 X a fd (aw t) names (bodyOf t):=by
 obtain ⟨o,fd,ho,hd,e⟩:=ok.fn O he
 have p1:fd.params=du t:=congrArg (·.1) e
 exact ⟨fd,⟨⟨o,hk _ _ ho,hd⟩,(codeB.d (congrArg (·.2.2.2.2.2.2.2) e)).keeps hk,congrArg (·.2.2.1) e,congrArg (·.2.1) e,fun vs hl=>sW (p1▸S.p) (p1▸S.a) (p1▸S.v) (p1▸S.k) (p1▸S.w) (congrArg (·.2.2.2.2.2.2.1) e) S.n hl,congrArg (·.2.2.2.1) e,S.co,S.gen,S.kind,congrArg (·.2.2.2.2.1) e,congrArg (·.2.2.2.2.2.1) e⟩⟩
end
theorem tQ {α:Type}{n:Nat}{l:List α}(h:l.length=n+1):∃ a t,l=a::t∧t.length=n:=by
 cases l with
 | nil=>cases h
 | cons a t=>exact ⟨a,t,rfl,Nat.succ.inj h⟩
theorem vj {α:Type}{l:List α}(h:l.length=1):∃ a,l=[a]:=by
 obtain ⟨a,t,rfl,k⟩:=tQ h
 exact ⟨a,congrArg (a::·) (List.eq_nil_of_length_eq_zero k)⟩
theorem vi {α:Type}{l:List α}(h:l.length=3):∃ a b c,l=[a,b,c]:=by
 obtain ⟨a,t,rfl,k⟩:=tQ h
 obtain ⟨b,u,rfl,k2⟩:=tQ k
 obtain ⟨c,rfl⟩:=vj k2
 exact ⟨a,b,c,rfl⟩
theorem z9 {fd:RD}{s:Qs}(p1:fd.params=du (bO (top 10) 0)) (q1:fd.defaults=.ref 100) (q2:s.heap.get? 100=some (lI NA)) (v1 v2 v3:Qr):BindsTo s fd ⟨[v1,v2,v3],[]⟩ ((["self","octets","at"]:List Qy).zip ([v1,v2,v3]++[])):=by
 obtain ⟨nm,q,params,body,scope,globals,closure,Ds,kwd,doc,pm,ann,code,ct,blt⟩:=fd
 dsimp only at p1 q1
 subst p1 q1
 exact BindsTo.of_defaults rfl q2 rfl rfl (by kernel_rfl)
theorem uL {fd:RD}{s:Qs}(p1:fd.params=du (bO (top 44) 0)) (q1:fd.defaults=.ref 279) (q2:s.heap.get? 279=some (lI JG)) (v1:Qr):BindsTo s fd ⟨[v1],[]⟩ ((a9::eE 2:List Qy).zip ([v1]++JG)):=by
 obtain ⟨nm,q,params,body,scope,globals,closure,Ds,kwd,doc,pm,ann,code,ct,blt⟩:=fd
 dsimp only at p1 q1
 subst p1 q1
 exact BindsTo.of_defaults rfl q2 rfl rfl (by kernel_rfl)
theorem Aa {fd:RD}{s:Qs}(p1:fd.params=du (bO (top 48) 6)) (q1:fd.defaults=.ref 371) (q2:s.heap.get? 371=some (lI JH)) (v1 v2 v3:Qr):BindsTo s fd ⟨[v1,v2,v3],[]⟩ ((a9::["kind","block","bonus"]:List Qy).zip ([v1,v2,v3]++JH)):=by
 obtain ⟨nm,q,params,body,scope,globals,closure,Ds,kwd,doc,pm,ann,code,ct,blt⟩:=fd
 dsimp only at p1 q1
 subst p1 q1
 exact BindsTo.of_defaults rfl q2 rfl rfl (by kernel_rfl)
theorem rR {h h₁:QL}{a:Qt}{m:Qy→Option Qr}(ok:h.isNs a=true) (keep:∀ b o,h.get? b=some o→h₁.get? b=some o) (hg:h₁.Ns a m):m=h.nsMap a:=Ns.uniq hg ((QL.Ns.of_isNs ok).keeps keep)
theorem ET {h:QL}(O:obs h=due) (c:Nat):kG (bP h bT) (ra c) (eE c) (Ed c):=by
 match c with
 | 0=>exact ok.c0 O
 | 1=>exact ok.c1 O
 | 2=>exact ok.c2 O
 | c+3=>exact ok.c3 O
noncomputable def y9 (w:RE) {h h₁:QL}(O:obs h=due) (keep:∀ b o,h.get? b=some o→h₁.get? b=some o) (mg mb:Qy→Option Qr) (hg:h₁.Ns QY mg) (hb:h₁.Ns Ra mb) (lim:h₁.NoLimit):Cx where
 prog:=PySem.Challenge.pw_pb0585_01
 w:=w
 B:=h₁
 V:=cJ
 mg:=mg
 mb:=mb
 hg:=hg
 hb:=hb
 lim:=lim
 blt:=fun p hp=>by rw [rR (ok.ns O) keep hg,rR (ok.nb O) keep hb];exact Prod.mk.inj (ok.blt O p hp)
 K:=bP h bT
 hK:=fun a o e=>keep a o (lW h bT a o e)
 cls:=ET O
 qB:=ok.mm O
section
variable {w:RE}{h h₁:QL}(O:obs h=due) (keep:∀ b o,h.get? b=some o→h₁.get? b=some o) (mg mb:Qy→Option Qr) (hg:h₁.Ns QY mg) (hb:h₁.Ns Ra mb) (lim:h₁.NoLimit) (V:VI)
theorem zd {e:Qt×Rr×List Qy}(he:e∈vS):(e.1,e.2.1,Qr.none)∈kr:=Rf _ (fV ⟨e,he,rfl⟩)
theorem jw {e:Qt×Rr×Qr}(he:e∈([(286,bO (top 44) 0,.ref 279),(335,bO (top 48) 0,.none),(314,bO (top 47) 0,.none),(378,bO (top 48) 6,.ref 371),(107,bO (top 10) 0,.ref 100)]:List (Qt×Rr×Qr))):e∈kr:=QZ _ he
theorem jD {h:QL}{a:Qt}{o:R3}(ho:h.get? a=some o):∀ as:List Qt,a∈as→(bP h as).lookup a=some o:=by
 intro as
 induction as with
 | nil =>
  exact fun hm=>nomatch hm
 | cons c as bA =>
  intro hm
  unfold bP
  by_cases z:a=c
  ·subst z
   rw [ho]
   dsimp only
   rw [Ro,beq_self_eq_true]
  ·have ih:=bA ((bS hm).resolve_left z)
   cases q:h.get? c with
   | none=>exact ih
   | some ob =>
    dsimp only
    rw [Ro,beq_eq_false_iff_ne.mpr z]
    exact ih
theorem ES:∃ fd,i6 ((y9 w O keep mg mb hg hb lim).cB V) 107 fd (aw (bO (top 10) 0)) ["self","octets","at"] (bodyOf (bO (top 10) 0)) 3 []:=by
 obtain ⟨o,fd,ho,hd,e⟩:=ok.fn O (jw (.tail _ (.tail _ (.tail _ (.tail _ (.head _))))))
 exact ⟨fd,⟨⟨o,keep _ _ ho,hd⟩,(codeB.d (congrArg (·.2.2.2.2.2.2.2) e)).keeps keep,congrArg (·.2.2.1) e,congrArg (·.2.1) e,fun vs hv s hK=>by
  obtain ⟨v1,v2,v3,rfl⟩:=vi hv
  exact z9 (congrArg (·.1) e) (congrArg (·.2.2.2.2.2.2.1) e) (hK 100 _ (jD (ok.o O 1) bT av)) v1 v2 v3,congrArg (·.2.2.2.1) e,by decide +kernel,by decide +kernel,by decide +kernel,congrArg (·.2.2.2.2.1) e,congrArg (·.2.2.2.2.2.1) e⟩⟩
theorem ym:∃ fd dv,(∀ g vw,aB g vw dv (I7.map D.int))∧i6 ((y9 w O keep mg mb hg hb lim).cB V) 286 fd (aw (bO (top 44) 0)) (a9::eE 2) (bodyOf (bO (top 44) 0)) 1 dv:=by
 obtain ⟨o,fd,ho,hd,e⟩:=ok.fn O (jw (.head _))
 exact ⟨fd,JG,fun g vw=>.cons (.int _ _) (.cons (.int _ _) (.cons (.int _ _) (.cons (.int _ _) (.cons (.int _ _) (.cons (.int _ _) (.cons (.int _ _) (.cons (.int _ _) (.cons (.int _ _) (.cons (.int _ _) (.cons (.int _ _) .nil)))))))))),⟨⟨o,keep _ _ ho,hd⟩,(codeB.d (congrArg (·.2.2.2.2.2.2.2) e)).keeps keep,congrArg (·.2.2.1) e,congrArg (·.2.1) e,fun vs hv s hK=>by
  obtain ⟨v1,rfl⟩:=vj hv
  exact uL (congrArg (·.1) e) (congrArg (·.2.2.2.2.2.2.1) e) (hK 279 _ (jD (ok.o O 2) bT av)) v1,congrArg (·.2.2.2.1) e,by decide +kernel,by decide +kernel,by decide +kernel,congrArg (·.2.2.2.2.1) e,congrArg (·.2.2.2.2.2.1) e⟩⟩
theorem E0:∃ fd dv,(∀ g vw,aB g vw dv [.bytes #[]])∧i6 ((y9 w O keep mg mb hg hb lim).cB V) 378 fd (aw (bO (top 48) 6)) [a9,"kind","block","bonus"] (bodyOf (bO (top 48) 6)) 3 dv:=by
 obtain ⟨o,fd,ho,hd,e⟩:=ok.fn O (jw (.tail _ (.tail _ (.tail _ (.head _)))))
 exact ⟨fd,JH,fun g vw=>.cons (.bytes _ _) .nil,⟨⟨o,keep _ _ ho,hd⟩,(codeB.d (congrArg (·.2.2.2.2.2.2.2) e)).keeps keep,congrArg (·.2.2.1) e,congrArg (·.2.1) e,fun vs hv s hK=>by
  obtain ⟨v1,v2,v3,rfl⟩:=vi hv
  exact Aa (congrArg (·.1) e) (congrArg (·.2.2.2.2.2.2.1) e) (hK 371 _ (jD (ok.o O 3) bT av)) v1 v2 v3,congrArg (·.2.2.2.1) e,by decide +kernel,by decide +kernel,by decide +kernel,congrArg (·.2.2.2.2.1) e,congrArg (·.2.2.2.2.2.1) e⟩⟩
theorem u6 {t:Rr}{names:List Qy}(hm:(t,names)∈BZ):Simp t names:=nG.d (R4.mp yl (t,names) hm)
theorem qE:Lib0 ((y9 w O keep mg mb hg hb lim).cB V) where
 fn:=fun k e he=>qI (X:=(y9 w O keep mg mb hg hb lim).cB V) O keep (zd (Q1 he)) (nG.d (R4.mp uy e (Q1 he)))
 gf:=fun k p hp=>by
  show mg p.1=_
  rw [rR (ok.ns O) keep hg];exact ok.gf O p (Rf _ (Q1 hp))
 gi:=fun k p hp=>by
  show ∃ t,mg p.1=_
  rw [rR (ok.ns O) keep hg];exact ok.gi O p (Q1 hp)
 cur:=ES O keep mg mb hg hb lim V
theorem rx {h:QL}(O:obs h=due):oL (bP h bT):=⟨ok.c4 O,ok.c3 O,ok.vm O⟩
include O keep hg in
theorem za {p:Qy×Qt}(hp:p∈yu):mg p.1=some (.ref p.2):=by rw [rR (ok.ns O) keep hg];exact ok.gf O p (QZ _ hp)
theorem A7:uQ ((y9 w O keep mg mb hg hb lim).cB V) where
 shape:=ym O keep mg mb hg hb lim V
 Hp:=let ⟨fd,hF⟩:=qI (X:=(y9 w O keep mg mb hg hb lim).cB V) O keep (jw (.tail _ (.head _))) (u6 (names:=[a9,"shape"]) (.head _));⟨fd,.ofFn hF rfl⟩
 Mv:=let ⟨fd,hF⟩:=qI (X:=(y9 w O keep mg mb hg hb lim).cB V) O keep (jw (.tail _ (.tail _ (.head _)))) (u6 (names:=[a9,"kind","block","bonus"]) (.tail _ (.head _)));⟨fd,.ofFn hF rfl⟩
 add:=E0 O keep mg mb hg hb lim V
 Y:=rx O
 qB:=ok.am O
 mg:=za O keep mg hg (p:=("MemDnode",317)) (.tail _ (.tail _ (.head _)))
 cls:=ok.c2 O
theorem Ea (P:bj):cP ((y9 w O keep mg mb hg hb lim).cB (e9 PySem.Challenge.pw_pb0585_01 w P)) P where
 toLib0:=qE O keep mg mb hg hb lim _
 V:=rfl
 Y:=rx O
 FI:=⟨(ok.FI O).keeps keep,ok.c O 0,congrArg (fun x:Ai=>x.2.2.2.2.2.2.2) O,by kernel_rfl,ok.c O 1,ok.c O 2,ok.ck O,za O keep mg hg (p:=("Corrupt",51)) (.tail _ (.head _))⟩
end
noncomputable def qj (R:Tr) (cl:Qy→Option Qt) (h:QL) (v:Qr) (d:TQ):Prop:=match d with
 | .int i=>∃ t,v=.int i t
 | .list xs=>∃ a o vs n as,v=.ref a∧h.get? a=some o∧o.cls=.type "list"∧o.data=.seq vs n∧ReadsAllW R cl h vs.toList xs as
 | _=>True
theorem qj.of {R:Tr}{cl:Qy→Option Qt}{h:QL}{v:Qr}{d:TQ}{as:List Qt}(x:ReadsW R cl h v d as):qj R cl h v d:=by
 refine ReadsW.casesOn (motive_1:=fun v d _ _=>qj R cl h v d) x ?_ ?_ (fun i t=>⟨t,rfl⟩) ?_ (fun a b c e=>⟨_,_,_,_,_,rfl,a,b,c,e⟩) ?_ ?_ ?_ ?_ ?_ ?_ ?_ ?_
 all_goals (intros;trivial)
theorem xc {R:Tr}{cl:Qy→Option Qt}{h:QL}(xs:List TQ):∀ {vs:List Qr}{as:List Qt},ReadsAllW R cl h vs xs as→(∀ x∈xs,∃ i,x=.int i)→∃ ns:List Int,ns.length=xs.length∧∀ g vw,aB g vw vs (ns.map D.int):=by
 induction xs with
 | nil=>intro vs as h _;cases h;exact ⟨[],rfl,fun _ _=>.nil⟩
 | cons x xs ih =>
  intro vs as h hx
  cases h with
  | cons hv hr =>
   obtain ⟨ns,h1,h2⟩:=ih hr fun y hy=>hx y (QD _ hy)
   obtain ⟨i,rfl⟩:=hx x QB
   obtain ⟨t,rfl⟩:=qj.of hv
   exact ⟨i::ns,congrArg (·+1) h1,fun g vw=>.cons (.int i t) (h2 g vw)⟩
theorem w6 {R:Tr}{cl:Qy→Option Qt}{h:QL}{xs:List TQ}{vs:List Qr}{as:List Qt}(x:ReadsAllW R cl h vs [.list xs] as):∃ v,vs=[v]∧qj R cl h v (.list xs):=by
 cases x with
 | cons hv hr=>cases hr;exact ⟨_,rfl,qj.of hv⟩
theorem zG {args:List TQ}(h:WShape.hasAll [] args [.list .int]=true) (one:∀ {x},WShape.has [] x (.list .int)=true→∃ xs,x=.list xs∧∀ y∈xs,∃ i,y=.int i):∃ xs,args=[.list xs]∧∀ y∈xs,∃ i,y=.int i:=by
 cases args with
 | nil=>exact (Bool.false_ne_true h).elim
 | cons x r =>
  have h:=QX.mp (show (WShape.has [] x (.list .int)&&WShape.hasAll [] r [])=true from h)
  cases r with
  | nil=>obtain ⟨xs,rfl,hx⟩:=one h.1;exact ⟨xs,rfl,hx⟩
  | cons y r=>exact (Bool.false_ne_true h.2).elim
theorem zk {w:RE}{h:QL}{ah:Qs}{mg mb:Qy→Option Qr}(O:obs h=due) (keep:∀ b o,h.get? b=some o→ah.heap.get? b=some o) (hg:ah.heap.Ns QY mg) (hb:ah.heap.Ns Ra mb) (lim:ah.heap.NoLimit) (gens:ah.gens=#[])
  {a:Qt}(hl:mg "law"=some (.ref a)) {l:Qt}{o:R3}{vs:Array Qr}{m:Nat}{ns:List Int}(h1:ah.heap.get? l=some o) (h2:o.cls=.type "list") (h3:o.data=.seq vs m) (h4:∀ g vw,aB g vw vs.toList (ns.map D.int)) (hn:ns.length≤63)
  {Q:Qr→Qs→Prop}{E:Qr→Qs→Prop}(k:∀ s',Dv ah s'→Q (.bool true) s'):QF (QJ PySem.Challenge.pw_pb0585_01 w) callerA (PySem.call (.ref a) [.ref l]) Q E ah:=by
 have ha:a=495:=by
  have:=(za O keep mg hg (p:=("law",495)) (.head _)).symm.trans hl
  cases this;rfl
 subst ha
 obtain ⟨fd,hF⟩:=(qE O keep mg mb hg hb lim cJ).fn 40 _ rfl
 refine xa (X:=y9 w O keep mg mb hg hb lim) (n:=14) (g:=fun c=>if c=l then some o else none) (ds:=[.list (ns.map D.int)]) (names:=["script"]) hF rfl rfl rfl (by decide +kernel) ⟨rfl,by decide,by decide⟩ gens (fun c ob q=>?_) (.cons (.list (vs:=vs.toList) (if_pos rfl) h2 h3 (h4 _ _)) .nil) ?_ k
 ·split at q
  ·rename_i e;cases q;rw [e];exact h1
  ·cases q
 ·exact zo (X:=y9 w O keep mg mb hg hb lim) (n:=6) (qE O keep mg mb hg hb lim cJ) (A7 O keep mg mb hg hb lim cJ) (fun P=>Ea O keep mg mb hg hb lim P) (fun P L=>tC (n:=2) L) (fun P L=>x5 (n:=0) L) hn
noncomputable def posOf:Rr→Rd
 | .FunctionDef _ _ _ _ _ _ _ _ _ p=>p
 | _=>default
noncomputable def zp:DefRec:={ name:="law",params:=du (top 62),body:=bodyOf (top 62),scope:=aw (top 62),pos:=posOf (top 62) }
theorem has_int {R:Tr}{x:TQ}(h:WShape.has R x .int=true):∃ i,x=.int i:=by
 cases x with
 | int i=>exact ⟨i,rfl⟩
 | _=>exact (Bool.false_ne_true h).elim
theorem xi {R:Tr}:∀ {xs:List TQ},WShape.hasItems R xs .int=true→∀ x∈xs,∃ i,x=.int i:=by
 intro xs
 induction xs with
 | nil =>
  exact fun _ x hx=>nomatch hx
 | cons y ys bA =>
  intro h x hx
  have h:=QX.mp (show (WShape.has R y .int&&WShape.hasItems R ys .int)=true from h)
  rcases bS hx with rfl|hx
  ·exact has_int h.1
  ·exact bA h.2 x hx
theorem has_list {R:Tr}{x:TQ}(h:WShape.has R x (.list .int)=true):∃ xs,x=.list xs∧∀ y∈xs,∃ i,y=.int i:=by
 cases x with
 | list xs=>exact ⟨xs,rfl,xi ((Bool.or_false _).symm.trans h)⟩
 | _=>exact (Bool.false_ne_true h).elim
theorem v_not {R:Tr}{t u:WTm}{e:WCtx}(h:WTm.value R t e=some (.bool true)):WTm.value R (.and (.not t) u) e=some (.bool false):=by
 have h':WTm.value R (.not t) e=some (.bool false):=by
  show (match WTm.value R t e with|some (.bool b)=>some (TQ.bool (!b))|_=>none)=_
  rw [h];rfl
 show (match WTm.value R (.not t) e with|some (.bool false)=>some (TQ.bool false)|some (.bool true)=>(match WTm.value R u e with|some (.bool x)=>some (TQ.bool x)|_=>none)|_=>none)=_
 rw [h']
theorem AV {xs:List TQ}(h:WTm.holds [] PySem.Challenge.rw_pb0585_01.row.pre { args:=[.list xs] }=true):xs.length≤63:=by
 by_cases q:xs.length≤63
 ·exact q
 ·have e:WTm.value [] (.lt (.lit (.int 63)) (.len (.arg 0))) { args:=[.list xs] }=some (.bool (decide ((63:Int)<(xs.length:Int)))):=rfl
  rw [decide_eq_true (show (63:Int)<(xs.length:Int) by exact (dW (ag (bI (aq aa (ae 63))) (cU (aJ 63) (aL aa)))) q)] at e
  have k:=v_not (u:=.lit (.bool true)) e
  have h':(match WTm.value [] (.and (.not (.lt (.lit (.int 63)) (.len (.arg 0)))) (.lit (.bool true))) { args:=[.list xs] } with|some (.bool true)=>true|_=>false)=true:=h
  rw [k] at h'
  exact (Bool.false_ne_true h').elim
theorem wO {xs:List TQ}:PySem.Challenge.rw_pb0585_01.row.toRowW.claim.post [.list xs] (.bool true) [.list xs]=true:=by
 kernel_rfl
theorem wh:WalkX qv nS (fun _ _=>True) A1 (fun _=>due) PySem.Challenge.rw_pb0585_01.row.toRowW zp [] fun f vs=>PySem.call f vs:=by
 intro w jm ah mg mb G Y a o pm cd doc dV kV ho hd Na hD OA hg args vals as L Ek K0 MQ Fp sj
 have MN:=(QX.mp Ek).1
 have Jn:=(QX.mp Ek).2
 obtain ⟨xs,ea,hx⟩:=zG MN has_list
 obtain ⟨v,ev,hv⟩:=w6 (ea▸MQ)
 obtain ⟨l,ob,vs,n,bs,e1,h1,h2,h3,h4⟩:=hv
 have hlen:xs.length≤63:=AV (ea▸Jn)
 clear Ek MN Jn K0 MQ Fp sj
 subst ea ev e1
 obtain ⟨ns,hn,xg⟩:=xc xs h4 hx
 exact zk Y L.keeps G.T.g G.T.b G.T.nolimit hg OA h1 h2 h3 xg (hn▸hlen) fun s' e=>GoodW.toG ⟨.inl ⟨.bool true,.bool true,[],rfl,fun cls=>rfl,.bool true,wO,fun _=>⟨U8,fun a h=>nomatch h⟩⟩,e.2.2,e.2.1,e.1⟩
theorem row_holds (said:PySem.Challenge.rw_pb0585_01.row.wellSaid=true):PySem.Challenge.rw_pb0585_01.row.Holds :=
 holds_openX (q:=qv) (loose:=nS) (Xt:=fun _=>true) (XP:=fun _ _=>True) (Yf:=A1) (Ya:=fun _=>due) (N:=8000) (d:=zp) (kwd:=[]) zi (fun _ _=>trivial) (fun _ _ _ _ _=>trivial) (by rfl) (by rfl) (by rfl) (fun _ _=>recFacts_nil rfl) (by rfl) said (by decide +kernel) ⟨rfl,rfl,rfl,rfl,rfl,by decide +kernel⟩ ⟨[.list [.int 3,.int 1]],by decide +kernel,by decide +kernel⟩ wh
end Mine.Internal
end
set_option maxHeartbeats 8000000 in
theorem PySem.Challenge.cw_pb0585_01_holds : PySem.Challenge.rw_pb0585_01.Holds :=
 PySem.W.holds_law (by kernel_rfl) fun said=>Mine.Internal.row_holds said
