import PyProof.Rows.All
import PyProof.CompFree
import PyProof.ExcBaseAll.Exception
import PyProof.ExcAttrAll.Exception
import PyProof.ExcInit
import PyProof.Rows.Exc
import Wide.BytesRules
import KE.BitLaws
import OpenK.KLine
import KE.BytesMake
import KE.KBytesWalk
import KE.KBytesCut
import KE.KPar
import KE.KSortTup
import KE.KTryMore
import Lean
import PySem.Challenge.RW_nm0161_01
set_option Elab.async false
set_option maxRecDepth 100000
set_option maxHeartbeats 4000000
set_option linter.all false
set_option genSizeOf false
set_option genInjectivity false
set_option genCtorIdx false
set_option bootstrap.genMatcherCode false
set_option backward.match.sparseCases false
set_option tactic.hygienic false
namespace Mine
open And renaming intro→wj
open Array renaming length_toList→ez,getElem?_toList→fq,mk→gh,eq_empty_of_size_eq_zero→jy,size_append→qt,getElem?_eq_some_iff→qz,getElem?_eq_getElem→ru,size_push→vq,toList_append→vz,toList_push→yb,eraseIdxIfInBounds→yl,any_toList→yw,toList_eraseIdx→zy,getElem?_mapIdx→zz
open Bool renaming false_ne_true→fh,and_eq_true_iff→gj,not_eq_true'→ia,or_eq_true_iff→jv,false_eq_true→sf,and_false→u7,or_true→u9,or_false→ye,or_eq_false_iff→A01
open Classical renaming byContradiction→aj
open Eq renaming trans→A03
open Exists renaming imp→A0G
open ForInStep renaming yield→lz
open Int renaming natCast_nonneg→iu,lt_of_lt_of_le→j6,le_trans→ja,not_le→jc,fdiv_eq_ediv_of_nonneg→jr,le_of_lt→kg,ofNat_le→kh,ediv_lt_iff_lt_mul→m7,not_lt→mh,lt_of_le_of_lt→mj,emod_eq_of_lt→nk,eq_ofNat_of_zero_le→oj,add_zero→qa,le_ediv_iff_mul_le→qc,ofNat_lt→qd,lt_trans→u0,add_assoc→uy,mul_le_mul_of_nonneg_left→v5,ediv_nonneg→vm,ne_of_gt→w6,add_comm→w7,add_mul_emod_self_left→x8,fmod_eq_emod_of_nonneg→xd,add_le_of_le_sub_left→xr,le_sub_left_of_add_le→xt,lt_irrefl→yi,fmod_nonneg_of_pos→z0,mul_comm→z3,lt_asymm→z9,natCast_pos→zj,mul_ediv_add_emod→zw,toNat_of_nonneg→A0g,ediv_one→A0J
open Int.ofNat renaming inj→A2U
open List renaming length_map→aq,mem_cons→ay,all_eq_true→az,length_append→b4,isEmpty_iff→b6,append_assoc→b8,map_append→bf,append_nil→bw,getElem?_eq_getElem→dh,mem_append_right→e7,getD_eq_getElem?_getD→e9,getElem?_map→f9,range→fu,length_range→gr,lookup_cons→gz,replicate→i8,mem_of_getElem?→ig,mem_singleton→iy,size_toArray→je,mem_append→jk,mem_append_left→jo,map_cons→jq,length_cons→jx,contains_cons→jz,map_map→ko,mem_map→ku,mem_range→l5,length_eq_one_iff→m8,contains_iff_mem→mw,getElem?_eq_some_iff→mz,mem_cons_of_mem→nh,forall_mem_cons→nr,length_eq_zero_iff→om,map_nil→qe,reverse_cons→qv,filterMap_cons→rz,nodup_cons→se,mem_filterMap→su,getElem?_range→vt,toList_toArray→w4,map_id'→wg,mem_cons_self→wo,findIdx?_cons→xe,any_eq_false→xw,lookup→yc,getElem_mem→yv,head?_eq_getElem?→z7,isEmpty→ze,length_nil→zl,getElem?_set_ne→A08,length_reverse→A0j,zip_eq_zipWith→A0k,map_eq_nil_iff→A0n,any_nil→A0H
open List.cons renaming inj→ic
open Nat renaming le_trans→ao,lt_of_le_of_lt→bq,le_add_right→br,succ_le_succ→cj,le_of_ble_eq_true→cw,add_le_add_left→d9,le_refl→ew,lt_of_succ_lt_succ→gg,lt_succ_self→gp,lt_of_lt_of_le→gv,zero_le→ie,ne_of_lt→ir,le_of_succ_le_succ→iw,blt→jd,add_le_add_right→jm,lt_irrefl→kj,add_le_add→l8,eq_of_beq_eq_true→mu,le_add_left→n9,ble→nj,le_succ_of_le→nq,le_succ→pq,succ_pos→qb,min_le_left→qg,beq→qp,le_of_lt_succ→qq,not_lt→r8,mul_le_mul_right→ri,le_of_lt→rj,sub_lt_sub_left→sd,lt_of_le_of_ne→sq,le_of_eq→u6,lt_trans→ua,not_succ_le_zero→v8,not_lt_zero→vn,succ_add→w9,zero_add→wc,add_comm→we,lt_or_eq_of_le→x6,lt_add_of_pos_right→yt,min_eq_right→yu,sub_le→z4,succ_mul→z6,le_antisymm→zk,ble_eq_true_of_le→zu,add_lt_add_right→A02,add_assoc→A0q
open Nat.succ renaming inj→u5
open Option renaming bind_eq_some_iff→av,map_eq_some_iff→bk,isSome_iff_exists→fk,isNone_iff_eq_none→gm,none→pg,map_some→zq,bind_some→A1p,getD→A1y,map→A2l
open Option.some renaming inj→bh
open Prod.mk renaming inj→q8
open PyProof.Rows renaming subscriptTail→jj,IntsAre→qf,is_none_gen→yj,get?_update_seq→zp,tail_any→A05,lt_int→A0i
open PySem renaming Value→aa,Shared→ai,wpAny_bind→ak,World→b3,OsState→b5,Params→b7,wpAny_pure→bg,treeTable→bu,Around→bz,builtinLookup_eq_fast→dj,DictEntry→dw,Scope→eg,wpAny_specialOf→fj,typeLookup_type→gk,wpAny_of_eq→iz,wpAny_loadName_local→j7,bm_if_false→j9,checkBuiltinCall→jb,wpAny_loadPart_at→jf,FuncData→jh,compareOp→jl,Builtin→jt,typeLookup→ju,Setting→jw,Program→k9,Result→ly,bindArgs→m6,Comprehension→m9,NameKind→mq,noteFrame→n7,wpAny_load→nu,wpAny_mono→o4,wpAny_holding→o5,Model→o8,wpAny_isSubtype_exc→o9,isSubtype_type→oq,wpAny_execs_cons→oz,wpAny_field→pn,updateBytearray→qh,wpAny_standAt→qi,plainId_quiet→qk,wpAny_newObj_type→qo,CmpOp→qw,Operator→qx,wpAny_isInstance→rm,entryFor_of_tree→rt,arm_eval_Attribute→sx,excClassObj→tn,entryFor→ue,plainObj_wpAny_Assign_Attribute→ug,Arguments→um,storeName→uq,wpAny_call→uu,wpAny_Name→uv,behindInMarks→uw,swappedStores→ux,attributeBase→uz,codeAny_call_builtin→v9,leftWithCleanup_false_of_bare→ve,theTreesLotGoes→vg,letOwnedTupleGo→vj,codeAny_of_tree→vp,getMethod→wk,binaryOp→wu,wpAny_setField→wz,evalPairs_cons→xj,foldedSetIterable→xu,sizeLine_eq→xy,wpAny_pyIter_list→y9,wpAny_assign_Name→ya,callerA→yd,swapsWithSole→yf,assignInOrder→yg,GenState→yp,markedBehindIn_of_false→yq,evalArgs→yr,allTrue→yz,bm_if_true→zb,byteArr_size→zc,valueAt→zf,importedModules→zg,wpAny_execs_nil→zh,Const→zo,wpAny_storeName_local→zx,table→A06,wpAny_loadPart→A07,recursionLimit→A09,lastMarks→A0b,cellsFrom→A0d,wpAny_newList→A0p,assignEach→A0C,sysModules→A0E,bindName→A0I,Keyword→A0L,callAny→A0S,intKind→A0U,handleBy→A0X,classAt→A0Z
open PySem.Around renaming under_plainId→lg,under_plain→sy
open PySem.Builtin renaming bitAnd→fy,bitOr→yh
open PySem.Builtin.BaseException renaming bexcPut→A1z
open PySem.Builtin.Bytes renaming slotIsOwn→jn,ownRelease→o7,decodersThatHold→oi,exportsOf→ou,buffer?→ql,payload→qm,checkResize→ry,payload?→uc,takeBufferQuiet?→ur,lengthHint→yk,byteValue→yx,exported→zd,write→A0m
open PySem.Builtin.Bytes.exported renaming match_1→A1f
open PySem.Builtin.Int renaming intBits→A0h
open PySem.Builtin.Str renaming strSliceIndices→w5
open PySem.Calls renaming Name_function_global→j8,loadGlobal_global→qu,loadGlobal_builtin→xh
open PySem.Code renaming quiet_builtin→tf
open PySem.EntryCells renaming newEntry→A0f
open PySem.ExcName renaming means→yo
open PySem.Heap renaming get?_push_of_some→au,get?_push_size→b9,get?_update_other→dm,lt_size→gq,SameBut→gu,get?_update_self→jg,get?_none_of_le→l9,size_push→ud
open PySem.Heap.DictOf renaming new→A1L
open PySem.Heap.IsSliceOf renaming new→A0A
open PySem.Heap.Ns renaming of_isNs→vo
open PySem.Heap.SameBut renaming update→m5
open PySem.Manifest renaming canonical→A0F
open PySem.NameKind renaming cell→A0t
open PySem.Obj renaming mapSeq→o6,mapFields→qj,data_mapFields→sj,isFreed_of_fields→zv
open PySem.PyData renaming keyHash→af
open PySem.Sem renaming wp_mono→ni,wp_bind'→tu,wp_release→A00
open PySem.Value renaming ref→gw,none→ny,isInt→q9,builtin→ym,int→A0c,bool→A0z
open PySem.Value.type renaming inj→A2i
open PySem.W renaming piecesOf→ck,look_both→dz,typeIs_bytes→j0,piece_app→j3,segRun_of→j5,SharedT→kc,segRunT→lq,topRun→lu,restOf→nt,looks_findIn→uf,boot_heap→uo,handedIn→A04,Looks→A0a,codeRec_of→A0D
open PySem.W.FB renaming slot_bytes_getitem→uh
open PySem.W.Looks renaming of_pure→A0s
open PySem.W.SL renaming s14018661285674007319x4→wm,s7174869446012820540x8→xo,s2766695959194262286x5→xq
open PySem.W.WData renaming layableAll→yy
open String renaming splitOnAux→A0Q
section
open PyProof.Rows PySem PySem.Calls PySem.W
set_option backward.match.sparseCases true
noncomputable abbrev P0:k9:=PySem.Challenge.pw_nm0161_01
theorem D4:PySem.Challenge.pw_nm0161_01=P0:=rfl
noncomputable abbrev Xv:OpenLaw:=PySem.Challenge.rw_nm0161_01
theorem yK:(sreFenced Xv.prog.main)=true:=by kernel_rfl
theorem yX:(((moduleNames Xv.prog.main.body).isEmpty||lookedIntoSs (moduleNames Xv.prog.main.body) Xv.prog.main.body))=true:=by kernel_rfl
theorem yR:(namesResolve Xv.prog)=true:=by kernel_rfl
theorem yF:(Xv.prog.boundNames.all (fun n=> !worldNames.contains n))=true:=by kernel_rfl
theorem yI:(noRoadLSs {strict:= !(zg Xv.prog.main.body).all cThrough.contains,foot:=none,bare:=(["vars","dir","locals"]:List Str).filter (readsOut Xv.prog Xv.prog.main.body)} Xv.prog.main.body)=true:=by kernel_rfl
theorem yG:(namesMeet Xv.prog Xv.prog.main.body fun _ n=>attrL n)=true:=by kernel_rfl
theorem Ac7:looksOpen Xv.prog=true:=(dz (dz (dz (dz (dz yK yX) yR) yF) yI) yG)
theorem Ac6:Xv.row.partSaid=true:=(dz (dz (dz (dz (dz (dz (dz (dz (dz (dz (dz (dz (dz Ac7 (by kernel_rfl)) (by kernel_rfl)) (by kernel_rfl)) (by kernel_rfl)) (by kernel_rfl)) (by kernel_rfl)) (by kernel_rfl)) (by kernel_rfl)) (by kernel_rfl)) (by kernel_rfl)) (by kernel_rfl)) (by kernel_rfl)) (by kernel_rfl))
theorem yW:(Xv.prog.boundNames.contains Xv.name)=true:=by kernel_rfl
theorem yT:(!startupNames.contains Xv.name)=true:=by kernel_rfl
theorem Ac2:Xv.row.wellSaid=true:=dz (dz Ac6 yW) yT
theorem yV:(decide (Xv.foot≤(behindTheImports Xv.prog).length))=true:=by kernel_rfl
theorem yO:(Xv.footing.all footLine)=true:=by kernel_rfl
theorem yP:(noClassBlock Xv.prog Xv.footing)=true:=by kernel_rfl
theorem yS:(Xv.most.all (fun n=>decide (63≤n)))=true:=by kernel_rfl
theorem yJ:(Xv.bound.all (fun n=>decide (2^63≤n)))=true:=by kernel_rfl
theorem yH:(noRoadLSs {strict:=true,foot:=some Xv.bound',writes:=Xv.writes,may:=Xv.may} Xv.footing)=true:=by kernel_rfl
theorem yD:(defStands Xv.about Xv.above)=true:=by kernel_rfl
theorem yE:(Xv.namesIt)=true:=by kernel_rfl
theorem yN:((["type","isinstance","issubclass","getattr","hasattr"]:List Str).all (fun n=>Xv.about !=[n]))=true:=by kernel_rfl
theorem yQ:(Xv.bound'.all (fun n=> !builtinNamed n||Xv.about==[n]|| !Xv.reads n))=true:=by kernel_rfl
theorem oX:((!Xv.writes||(Xv.prog.main.body.flatMap importedNames).all fun n=> !Xv.reads n))=true:=by kernel_rfl
theorem pA:((Xv.prog.main.body.flatMap importedNames).all (fun n=> !Xv.reads n||(drawsOf n Xv.prog.main.body).all fun mn=>mn.2 !=("attrgetter":Str)&&mn.2 !=("methodcaller":Str)))=true:=by kernel_rfl
theorem qV:(namesMeet Xv.prog Xv.footing (fun sc n=>(!(["type","isinstance","issubclass","getattr","hasattr"]:List Str).contains n||sc.names.lookup n==some .globalImplicit)&&(Xv.may !=some n||sc.kind== .module||sc.names.lookup n==some .globalImplicit)))=true:=by kernel_rfl
theorem pI:(Xv.own.contains Xv.name)=true:=by kernel_rfl
theorem oQ:(Xv.own.eraseDups.length==Xv.own.length)=true:=by kernel_rfl
theorem oF:(Xv.own.all (fun n=> !builtinNamed n))=true:=by kernel_rfl
theorem qH:(namesMeet Xv.prog Xv.above (fun _ n=> !Xv.own.contains n))=true:=by kernel_rfl
theorem nZ:(namesMeet Xv.prog Xv.footing fun sc n=>sc.kind== .module||sc.names.lookup n !=some .globalExplicit)=true:=by kernel_rfl
theorem FL:OpenLaw.wellSaid Xv=true:=(dz (dz (dz (dz (dz (dz (dz (dz (dz (dz (dz (dz (dz (dz (dz (dz (dz (dz Ac2 yV) yO) yP) yS) yJ) yH) yD) yE) yN) yQ) oX) pA) qV) pI) oQ) oF) qH) nZ)
theorem Dz(h:PySem.Challenge.rw_nm0161_01.row.wellSaid=true→PySem.Challenge.rw_nm0161_01.row.Holds):PySem.Challenge.rw_nm0161_01.Holds:=holds_law FL h
noncomputable abbrev noFn:um × List Stmt × eg:=(⟨[],[],none,[],[],none,[]⟩,[],⟨.function,[],false,false,[]⟩)
noncomputable def LA:Option Stmt→um × List Stmt × eg
 |some (.FunctionDef _ a b _ _ _ sc _ _ _)=>(a,b,sc)
 |_=>noFn
noncomputable def cR:Option Stmt→List Stmt
 |some (.ClassDef _ _ _ b _ _ _ _ _ _ _)=>b
 |_=>[]
noncomputable abbrev fst(i:Nat):um × List Stmt × eg:=LA (P0.main.body[i]?)
noncomputable abbrev Uo(i j:Nat):um × List Stmt × eg:=LA ((cR (P0.main.body[i]?))[j]?)
noncomputable abbrev fd(name qualname:Str)(x:um × List Stmt × eg)(globals:Addr)(closure:List (Str × Addr))(defaults kwdefaults doc pyModule:aa)(annotations:Option Addr)(code closureTuple:aa)(builtins:Addr):jh:=
 {name,qualname,params:=x.1,body:= .stmts x.2.1,scope:=x.2.2,globals,closure,defaults,kwdefaults,doc,pyModule,annotations,code,closureTuple,builtins}
noncomputable def s0:Str:="<module>"
noncomputable def s1:Str:="/claim/cut.py"
noncomputable def s3:Str:="__name__"
noncomputable def s4:Str:="wasmcore.codes"
noncomputable def s5:Str:="__doc__"
noncomputable def s6:Str:="__package__"
noncomputable def s7:Str:="__loader__"
noncomputable def s8:Str:="__spec__"
noncomputable def s9:Str:="__annotations__"
noncomputable def Xb:Str:="__builtins__"
noncomputable def Vc:Str:="__file__"
noncomputable def XX:Str:="__cached__"
noncomputable def s13:Str:="_wall"
noncomputable def s14:Str:="I32"
noncomputable def s15:Str:="I64"
noncomputable def s16:Str:="FUNCREF"
noncomputable def s17:Str:="EXTERNREF"
noncomputable def s18:Str:="EMPTY"
noncomputable def s19:Str:="UNREACHABLE"
noncomputable def s20:Str:="NOP"
noncomputable def s21:Str:="BLOCK"
noncomputable def s22:Str:="LOOP"
noncomputable def s23:Str:="IF"
noncomputable def s24:Str:="ELSE"
noncomputable def s25:Str:="END"
noncomputable def s26:Str:="BR"
noncomputable def s27:Str:="BR_IF"
noncomputable def s28:Str:="BR_TABLE"
noncomputable def s29:Str:="RETURN"
noncomputable def s30:Str:="CALL"
noncomputable def s31:Str:="CALL_INDIRECT"
noncomputable def s32:Str:="RETURN_CALL"
noncomputable def s33:Str:="RETURN_CALL_INDIRECT"
noncomputable def s34:Str:="DROP"
noncomputable def s35:Str:="SELECT"
noncomputable def s36:Str:="SELECT_KINDS"
noncomputable def s37:Str:="LOCAL_GET"
noncomputable def s38:Str:="LOCAL_SET"
noncomputable def s39:Str:="LOCAL_TEE"
noncomputable def s40:Str:="GLOBAL_GET"
noncomputable def s41:Str:="GLOBAL_SET"
noncomputable def s42:Str:="TABLE_GET"
noncomputable def s43:Str:="TABLE_SET"
noncomputable def s44:Str:="MEMORY_SIZE"
noncomputable def s45:Str:="MEMORY_GROW"
noncomputable def s46:Str:="I32_CONST"
noncomputable def s47:Str:="I64_CONST"
noncomputable def s48:Str:="REF_NULL"
noncomputable def s49:Str:="REF_IS_NULL"
noncomputable def s50:Str:="REF_FUNC"
noncomputable def s52:Str:="MEMORY_INIT"
noncomputable def s53:Str:="DATA_DROP"
noncomputable def s54:Str:="MEMORY_COPY"
noncomputable def s55:Str:="MEMORY_FILL"
noncomputable def s56:Str:="TABLE_INIT"
noncomputable def s57:Str:="ELEM_DROP"
noncomputable def s58:Str:="TABLE_COPY"
noncomputable def s59:Str:="TABLE_GROW"
noncomputable def s60:Str:="TABLE_SIZE"
noncomputable def s61:Str:="TABLE_FILL"
noncomputable def s62:Str:="MANY_PREFIX"
noncomputable def s63:Str:="VECTOR_PREFIX"
noncomputable def s64:Str:="LOADS"
noncomputable def s65:Str:="STORES"
noncomputable def s66:Str:="LEFT_RANGES"
noncomputable def s67:Str:="FORMS"
noncomputable def FJ:Str:="table"
noncomputable def cU:Str:="memory"
noncomputable def NL:Str:="wasmcore.faults"
noncomputable def s89:Str:="NUMBERS"
noncomputable def s90:Str:="number_kind"
noncomputable def s91:Str:="form_of"
noncomputable def s92:Str:="is_block"
noncomputable def qD:Str:="is_left_out"
noncomputable def cT:Str:="least"
noncomputable def s99:Str:="type.__subclasses__.Exception.0"
noncomputable def cW:Str:="type.__subclasses__.Exception.n"
noncomputable def XY:Str:="WasmFault"
noncomputable def Y9:Str:="__module__"
noncomputable def V7:Str:="__qualname__"
noncomputable def Y8:Str:="__firstlineno__"
noncomputable def Yr:Str:="__init__"
noncomputable def Y7:Str:="__static_attributes__"
noncomputable def YS:Str:="self"
noncomputable def V9:Str:="__weakref__"
noncomputable def LI:Str:="Malformed"
noncomputable def LJ:Str:="LeftOut"
noncomputable def VA:Str:="wasmcore.modules"
noncomputable def LC:Str:="Misused"
noncomputable def AcC:Str:="PASSIVE"
noncomputable def AcD:Str:="ACTIVE"
noncomputable def Acy:Str:="DECLARED"
noncomputable def LG:Str:="Import"
noncomputable def UC:Str:="plain"
noncomputable def UB:Str:="__dict__"
noncomputable def LM:Str:="Elem"
noncomputable def WB:Str:="wasmcore.binwrite"
noncomputable def LK:Str:="Data"
noncomputable def AcG:Str:="FUNC_FORM"
noncomputable def Ac5:Str:="PREFIXED"
noncomputable def Acz:Str:="SEVEN"
noncomputable def qG:Str:="put_kind"
noncomputable def qP:Str:="put_kinds"
noncomputable def qW:Str:="put_limits"
noncomputable def Ti:Str:="octets"
noncomputable def V8:Str:="sink"
noncomputable def oM:Str:="put_func_kind"
noncomputable def qE:Str:="put_table_kind"
noncomputable def qQ:Str:="put_memory_kind"
noncomputable def qX:Str:="put_global_kind"
noncomputable def oH:Str:="put_import"
noncomputable def pZ:Str:="put_export"
noncomputable def pU:Str:="put_block_kind"
noncomputable def oO:Str:="put_code"
noncomputable def nY:Str:="put_numbers"
noncomputable def oP:Str:="put_immediates"
noncomputable def rB:Str:="put_instruction"
noncomputable def pW:Str:="write_body"
noncomputable def Xz:Str:="wasmcore.binread"
noncomputable def qZ:Str:="func_index_of"
noncomputable def Ig:Str:="put_elem"
noncomputable def oA:Str:="put_data"
noncomputable def Ac0:Str:="EMPTY_OCTET"
noncomputable def Ac3:Str:="BODY"
noncomputable def Ac1:Str:="LAST_SUB"
noncomputable def Ac4:Str:="DATA_CODES"
noncomputable def AcH:Str:="FLOATS"
noncomputable def AcE:Str:="VECTOR"
noncomputable def AcF:Str:="GREATEST_ALIGN"
noncomputable def qA:Str:="list_at"
noncomputable def oJ:Str:="index_at"
noncomputable def oN:Str:="want_kept"
noncomputable def qL:Str:="told_kind"
noncomputable def qY:Str:="kind_at"
noncomputable def pD:Str:="ref_kind_at"
noncomputable def pB:Str:="func_kind_at"
noncomputable def XM:Str:="cursor"
noncomputable def pS:Str:="limits_at"
noncomputable def pM:Str:="table_kind_at"
noncomputable def qJ:Str:="memory_kind_at"
noncomputable def pH:Str:="global_kind_at"
noncomputable def oU:Str:="import_at"
noncomputable def oG:Str:="export_at"
noncomputable def pX:Str:="block_kind_at"
noncomputable def pN:Str:="want_zero"
noncomputable def pY:Str:="memarg_at"
noncomputable def pO:Str:="labels_at"
noncomputable def oB:Str:="first_immediates_at"
noncomputable def pR:Str:="immediates_at"
noncomputable def YA:Str:="wasmcore.octets"
noncomputable def qK:Str:="code_at"
noncomputable def pG:Str:="body_at"
noncomputable def oZ:Str:="constant_at"
noncomputable def qR:Str:="elem_kind_at"
noncomputable def Ib:Str:="elem_at"
noncomputable def oW:Str:="data_at"
noncomputable def LP:Str:="Cursor"
noncomputable def Tg:Str:="octet"
noncomputable def Om:Str:="unsigned"
noncomputable def Ol:Str:="signed"
noncomputable def LH:Str:="Sink"
noncomputable def YH:Str:="law_nm0161_01"
noncomputable def oE:Str:="utf8_of"
noncomputable def pL:Str:="head_of"
noncomputable def Ih:Str:="text_of"
noncomputable def qU:Str:="_law_next"
noncomputable def pQ:Str:="_law_pick"
noncomputable def qO:Str:="_law_texts"
noncomputable def pF:Str:="_law_text"
noncomputable def rA:Str:="_law_index"
noncomputable def qN:Str:="_law_signed"
noncomputable def pT:Str:="_law_kind"
noncomputable def JY:Str:="_law_kinds"
noncomputable def pP:Str:="_law_limits"
noncomputable def oK:Str:="_law_constant"
noncomputable def qI:Str:="_law_elem"
noncomputable def JW:Str:="_law_data"
noncomputable def qM:Str:="_law_about"
noncomputable def qC:Str:="_law_thing"
noncomputable def Ic:Str:="_law_groups"
noncomputable def oR:Str:="_law_free"
noncomputable def oV:Str:="_law_own"
noncomputable def pJ:Str:="_law_list"
noncomputable def JV:Str:="_law_word"
noncomputable def pV:Str:="_law_body"
noncomputable def JZ:Str:="_law_elem_ways"
noncomputable def Ia:Str:="_law_data_ways"
noncomputable def pK:Str:="_law_about_told"
noncomputable def Ie:Str:="_law_ways"
noncomputable def pC:Str:="_law_put"
noncomputable def qB:Str:="_law_fields"
noncomputable def rC:Str:="_law_read"
noncomputable def qS:Str:="_law_cut"
noncomputable def oY:Str:="_law_broken"
noncomputable def JX:Str:="law"
noncomputable def T0:aa:= .type wm
noncomputable def T1:aa:= .type SL.s9222952809800978799x4
noncomputable def T2:aa:= .type SL.s5946037652744460706x9
noncomputable def T3:aa:= .type SL.s11030030927630378310x26
noncomputable def T4:aa:= .builtin SL.s10062305145149207511x16
noncomputable def T5:aa:= .type SL.s17162191345867700912x4
noncomputable def T6:aa:= .type SL.s658472552662922059x5
noncomputable def T7:aa:= .type SL.s4278001404047624695x13
noncomputable def T8:aa:= .type SL.s2742458400755230247x6
noncomputable def T9:aa:= .builtin SL.s5160863994218179198x17
noncomputable def D0:aa:= .type SL.s14755015743595814543x17
noncomputable def xQ:aa:= .builtin SL.s10220274742760427390x26
noncomputable def cV:aa:= .type SL.s4290257624100764138x5
noncomputable def cS:aa:= .builtin SL.s4860613602091757760x24
noncomputable def yM:aa:= .builtin SL.s11443829558043349243x14
noncomputable def yL:aa:= .builtin SL.s6511155373996960695x17
noncomputable def yU:aa:= .builtin SL.s12411053484034534018x21
noncomputable def T17:aa:= .type xo
noncomputable def T18:aa:= .builtin SL.s7097527257260152453x26
noncomputable def tz:Obj:=⟨.type xq,none,.seq #[] 0,#[]⟩
noncomputable def fe:Obj:=⟨.none,none,.fields #[],#[]⟩
noncomputable def tv(l:List aa):Obj:=⟨.type xq,none,.seq l.toArray 0,#[]⟩
noncomputable def sk:Nat→List Str→List aa
 |_,[]=>[]
 |k,s::l=> .str s k::sk (k+1) l
noncomputable def ts(k:Nat)(l:List Str):Obj:=tv (sk k l)
noncomputable def cg(l:List aa):Obj:=⟨.type SL.s5856160107412720595x4,none,.fields l.toArray,#[]⟩
noncomputable def i0(k:Nat):aa:= .int k 0
noncomputable def cd(s q:Str)(k l n r m:Nat):Obj:=cg [.str s k,.str q (k+1),.str s1 (k+2),i0 l,i0 n,i0 0,i0 0,i0 3,.ref r,.bool true,i0 181,.ref (r+1),.none,.ref (r+2),.ref (r+3),.ref (r+4),i0 m,i0 l,.str s1 (m+1)]
noncomputable def fz(s q:Str)(x:um × List Stmt × eg):Obj:=⟨.none,none,.func (fd s q x 0 [] .none .none .none .none none .none .none 0),#[]⟩
noncomputable def fn(s q:Str)(x:um × List Stmt × eg)(d:Str)(k r:Nat):Obj:=⟨.type xo,none,.func (fd s q x 3 [] .none .none .none (.str d k) none (.ref r) .none 0),#[]⟩
noncomputable def tS(k:Nat):List Str→Obj
 |[]=>tz
 |l=>ts k l
noncomputable def f7(a:Nat)(s q:Str)(x:um × List Stmt × eg)(t:Nat)(l:List Str)(k i n m:Nat)(d:Str)(e:Nat)(r:Frag):Frag:=
 (a,tz)::(a+1,fe)::(a+2,tS t l)::(a+3,tz)::(a+4,fz s q x)::(a+5,cd s q k i n a m)::(a+6,fn s q x d e (a+5))::r
noncomputable def qF:List (Str × Nat × aa):=[(s5,166,.none),(s6,167,.none),(s7,168,T18),(s8,169,.none),(s9,170,.ref 6),(Xb,171,.ref 4),(Vc,173,.str s1 172),(XX,174,.none),(s13,193,.ref 21),(s14,196,.int (-1) 195),(s15,199,.int (-2) 198),(s16,202,.int (-16) 201),(s17,205,.int (-17) 204),(s18,208,.int (-64) 207),(s19,212,.int 0 211),(s20,214,.int 1 213),(s21,216,.int 2 215),(s22,218,.int 3 217),(s23,220,.int 4 219),(s24,222,.int 5 221),(s25,224,.int 11 223),(s26,226,.int 12 225),(s27,228,.int 13 227),(s28,230,.int 14 229),(s29,232,.int 15 231),(s30,234,.int 16 233),(s31,236,.int 17 235),(s32,238,.int 18 237),(s33,240,.int 19 239),(s34,242,.int 26 241),(s35,244,.int 27 243),(s36,246,.int 28 245),(s37,248,.int 32 247),(s38,250,.int 33 249),(s39,252,.int 34 251),(s40,254,.int 35 253),(s41,256,.int 36 255),(s42,258,.int 37 257),(s43,260,.int 38 259),(s44,262,.int 63 261),(s45,264,.int 64 263),(s46,266,.int 65 265),(s47,268,.int 66 267),(s48,270,.int 208 269),(s49,272,.int 209 271),(s50,274,.int 210 273),(s52,276,.int 64520 275),(s53,278,.int 64521 277),(s54,280,.int 64522 279),(s55,282,.int 64523 281),(s56,284,.int 64524 283),(s57,286,.int 64525 285),(s58,288,.int 64526 287),(s59,290,.int 64527 289),(s60,292,.int 64528 291),(s61,294,.int 64529 293),(s62,296,.int 252 295),(s63,298,.int 253 297),(s64,347,.ref 22),(s65,369,.ref 35),(s66,386,.ref 51),(s67,471,.ref 52),(s89,496,.ref 91),(s90,507,.ref 98),(s91,514,.ref 105),(s92,521,.ref 112),(qD,527,.ref 117),(XY,558,.ref 134),(LI,584,.ref 154),(LJ,610,.ref 173),(LC,626,.ref 185),(AcC,630,.int 0 629),(AcD,632,.int 1 631),(Acy,634,.int 2 633),(LG,676,.ref 211),(LM,720,.ref 239),(LK,762,.ref 267),(AcG,766,.int 96 765),(Ac5,768,.int 64512 767),(Acz,770,.int 127 769),(qG,778,.ref 278),(qP,787,.ref 285),(qW,796,.ref 292),(oM,806,.ref 299),(qE,817,.ref 306),(qQ,827,.ref 313),(qX,837,.ref 320),(oH,845,.ref 327),(pZ,856,.ref 334),(pU,864,.ref 341),(oO,872,.ref 348),(nY,881,.ref 355),(oP,890,.ref 362),(rB,900,.ref 369),(pW,909,.ref 376),(qZ,916,.ref 383),(Ig,922,.ref 388),(oA,930,.ref 395),(Ac0,934,.int 64 933),(Ac3,936,.int 0 935),(Ac1,938,.int 17 937),(Ac4,939,.ref 396),(AcH,944,.ref 397),(AcE,947,.int (-5) 946),(AcF,949,.int 31 948),(qA,959,.ref 404),(oJ,966,.ref 411),(oN,974,.ref 418),(qL,984,.ref 425),(qY,991,.ref 432),(pD,1000,.ref 439),(pB,1010,.ref 446),(pS,1020,.ref 453),(pM,1030,.ref 460),(qJ,1037,.ref 467),(pH,1047,.ref 474),(oU,1058,.ref 481),(oG,1068,.ref 488),(pX,1077,.ref 495),(pN,1085,.ref 502),(pY,1094,.ref 509),(pO,1102,.ref 516),(oB,1110,.ref 523),(pR,1120,.ref 530),(qK,1130,.ref 537),(pG,1142,.ref 544),(oZ,1149,.ref 551),(qR,1157,.ref 558),(Ib,1163,.ref 563),(oW,1175,.ref 570),(LP,1328,.ref 686),(LH,1413,.ref 756),(oE,1423,.ref 767),(pL,1431,.ref 774),(Ih,1446,.ref 782),(qU,1455,.ref 789),(pQ,1464,.ref 796),(qO,1470,.ref 803),(pF,1477,.ref 810),(rA,1485,.ref 817),(qN,1494,.ref 824),(pT,1501,.ref 831),(JY,1507,.ref 836),(pP,1515,.ref 843),(oK,1523,.ref 850),(qI,1538,.ref 857),(JW,1544,.ref 862),(qM,1553,.ref 869),(qC,1566,.ref 876),(Ic,1572,.ref 881),(oR,1581,.ref 888),(oV,1591,.ref 895),(pJ,1601,.ref 902),(JV,1607,.ref 907),(pV,1618,.ref 914),(JZ,1624,.ref 919),(Ia,1630,.ref 924),(pK,1642,.ref 931),(Ie,1648,.ref 936),(pC,1657,.ref 943),(qB,1666,.ref 950),(rC,1679,.ref 957),(qS,1694,.ref 964),(oY,1710,.ref 971),(JX,1716,.ref 976)]
noncomputable def D3(P:b7)(x:Str × Nat × aa)(n c:Nat):Obj:=⟨.type wm,none,.dict ((x::qF.take n).map fun x=>⟨af P x.1,.str x.1 x.2.1,x.2.2⟩).toArray c,#[]⟩
noncomputable def qT:List (Nat × Nat):=[(1,20),(59,97),(64,104),(70,111),(72,116),(77,123),(82,143),(87,162),(92,181),(98,193),(108,221),(119,249),(133,277),(135,284),(139,291),(144,298),(149,305),(153,312),(156,319),(160,326),(174,333),(179,340),(184,347),(190,354),(193,361),(211,368),(218,375),(221,382),(225,387),(246,394),(266,403),(271,410),(273,417),(278,424),(285,431),(287,438),(293,445),(300,452),(307,459),(311,466),(313,473),(320,480),(334,487),(341,494),(352,501),(356,508),(362,515),(366,522),(382,529),(401,536),(414,543),(434,550),(436,557),(441,562),(459,569),(469,576),(555,696),(590,766),(605,773),(615,781),(631,788),(633,795),(637,802),(639,809),(641,816),(646,823),(653,830),(655,835),(657,842),(660,849),(669,856),(680,861),(685,868),(694,875),(712,880),(714,887),(719,894),(724,901),(729,906),(731,913),(743,918),(760,923),(768,930),(778,935),(793,942),(810,949),(827,956),(836,963),(848,970),(856,975)]
noncomputable def F3(n:Nat):Obj:=⟨.none,none,.fields ((qT.take n).flatMap fun x=>[i0 x.1,i0 0,.ref x.2]).toArray,#[]⟩
noncomputable def W0:Frag→BT→BT
 |[],t=>t
 |x::r,t=>W0 r (t.ins x.1 x.2)
noncomputable def g1(P:b7)(r:Frag):Frag:=f7 15 s13 s13 (fst 0) 190 ["k"] 187 1 1 191 "__main__" 164 (r)
noncomputable def g2(P:b7)(r:Frag):Frag:=(22,⟨T0,none,.dict #[⟨40,.int 40 299,.ref 23⟩,⟨41,.int 41 302,.ref 24⟩,⟨44,.int 44 305,.ref 25⟩,⟨45,.int 45 308,.ref 26⟩,⟨46,.int 46 311,.ref 27⟩,⟨47,.int 47 314,.ref 28⟩,⟨48,.int 48 317,.ref 29⟩,⟨49,.int 49 320,.ref 30⟩,⟨50,.int 50 323,.ref 31⟩,⟨51,.int 51 326,.ref 32⟩,⟨52,.int 52 329,.ref 33⟩,⟨53,.int 53 332,.ref 34⟩] 12,#[]⟩)::(23,(tv [.int (-1) 195,.int 4 300,.int 0 301]))::(24,(tv [.int (-2) 198,.int 8 303,.int 0 304]))::(25,(tv [.int (-1) 195,.int 1 306,.int 1 307]))::(26,(tv [.int (-1) 195,.int 1 309,.int 0 310]))::(27,(tv [.int (-1) 195,.int 2 312,.int 1 313]))::(28,(tv [.int (-1) 195,.int 2 315,.int 0 316]))::(29,(tv [.int (-2) 198,.int 1 318,.int 1 319]))::(30,(tv [.int (-2) 198,.int 1 321,.int 0 322]))::(31,(tv [.int (-2) 198,.int 2 324,.int 1 325]))::(32,(tv [.int (-2) 198,.int 2 327,.int 0 328]))::(33,(tv [.int (-2) 198,.int 4 330,.int 1 331]))::(34,(tv [.int (-2) 198,.int 4 333,.int 0 334]))::r
noncomputable def g3(P:b7)(r:Frag):Frag:=(35,⟨T0,none,.dict #[⟨54,.int 54 348,.ref 36⟩,⟨55,.int 55 350,.ref 37⟩,⟨58,.int 58 352,.ref 38⟩,⟨59,.int 59 354,.ref 39⟩,⟨60,.int 60 356,.ref 40⟩,⟨61,.int 61 358,.ref 41⟩,⟨62,.int 62 360,.ref 42⟩] 7,#[]⟩)::(36,(tv [.int (-1) 195,.int 4 349]))::(37,(tv [.int (-2) 198,.int 8 351]))::(38,(tv [.int (-1) 195,.int 1 353]))::(39,(tv [.int (-1) 195,.int 2 355]))::(40,(tv [.int (-2) 198,.int 1 357]))::(41,(tv [.int (-2) 198,.int 2 359]))::(42,(tv [.int (-2) 198,.int 4 361]))::(43,(tv [.int 42 370,.int 43 371]))::(44,(tv [.int 56 372,.int 57 373]))::(45,(tv [.int 67 374,.int 68 375]))::(46,(tv [.int 91 376,.int 102 377]))::(47,(tv [.int 139 378,.int 166 379]))::(48,(tv [.int 168 380,.int 171 381]))::(49,(tv [.int 174 382,.int 191 383]))::(50,(tv [.int 64512 384,.int 64519 385]))::(51,⟨T1,none,.seq #[.ref 43,.ref 44,.ref 45,.ref 46,.ref 47,.ref 48,.ref 49,.ref 50] 0,#[]⟩)::r
noncomputable def g4(P:b7)(r:Frag):Frag:=(52,⟨T0,none,.dict #[⟨0,.int 0 211,.str "none" 387⟩,⟨1,.int 1 213,.str "none" 389⟩,⟨2,.int 2 215,.str "block" 391⟩,⟨3,.int 3 217,.str "block" 393⟩,⟨4,.int 4 219,.str "block" 395⟩,⟨5,.int 5 221,.str "none" 397⟩,⟨11,.int 11 223,.str "none" 399⟩,⟨12,.int 12 225,.str "label" 401⟩,⟨13,.int 13 227,.str "label" 403⟩,⟨14,.int 14 229,.str "labels" 405⟩,⟨15,.int 15 231,.str "none" 407⟩,⟨16,.int 16 233,.str "func" 409⟩,⟨17,.int 17 235,.str "indirect" 411⟩,⟨18,.int 18 237,.str "func" 413⟩,⟨19,.int 19 239,.str "indirect" 415⟩,⟨26,.int 26 241,.str "none" 417⟩,⟨27,.int 27 243,.str "none" 419⟩,⟨28,.int 28 245,.str "kinds" 421⟩,⟨32,.int 32 247,.str "local" 423⟩,⟨33,.int 33 249,.str "local" 425⟩,⟨34,.int 34 251,.str "local" 427⟩,⟨35,.int 35 253,.str "global" 429⟩,⟨36,.int 36 255,.str "global" 431⟩,⟨37,.int 37 257,.str FJ 433⟩,⟨38,.int 38 259,.str FJ 435⟩,⟨63,.int 63 261,.str cU 437⟩,⟨64,.int 64 263,.str cU 439⟩,⟨65,.int 65 265,.str "i32" 441⟩,⟨66,.int 66 267,.str "i64" 443⟩,⟨208,.int 208 269,.str "refkind" 445⟩,⟨209,.int 209 271,.str "none" 447⟩,⟨210,.int 210 273,.str "func" 449⟩,⟨64520,.int 64520 275,.str "memory_init" 451⟩,⟨64521,.int 64521 277,.str "data" 453⟩,⟨64522,.int 64522 279,.str "two_memories" 455⟩,⟨64523,.int 64523 281,.str cU 456⟩,⟨64524,.int 64524 283,.str "table_init" 457⟩,⟨64525,.int 64525 285,.str "elem" 458⟩,⟨64526,.int 64526 287,.str "table_copy" 459⟩,⟨64527,.int 64527 289,.str FJ 460⟩,⟨64528,.int 64528 291,.str FJ 461⟩,⟨64529,.int 64529 293,.str FJ 462⟩] 42,#[]⟩)::(53,⟨T0,none,.dict #[⟨28,.int 28 245,.str "kinds" 421⟩,⟨32,.int 32 247,.str "local" 423⟩,⟨33,.int 33 249,.str "local" 425⟩,⟨34,.int 34 251,.str "local" 427⟩,⟨35,.int 35 253,.str "global" 429⟩,⟨36,.int 36 255,.str "global" 431⟩,⟨37,.int 37 257,.str FJ 433⟩,⟨38,.int 38 259,.str FJ 435⟩,⟨63,.int 63 261,.str cU 437⟩,⟨64,.int 64 263,.str cU 439⟩,⟨65,.int 65 265,.str "i32" 441⟩,⟨66,.int 66 267,.str "i64" 443⟩,⟨208,.int 208 269,.str "refkind" 445⟩,⟨209,.int 209 271,.str "none" 447⟩,⟨210,.int 210 273,.str "func" 449⟩,⟨64520,.int 64520 275,.str "memory_init" 451⟩,⟨64521,.int 64521 277,.str "data" 453⟩] 17,#[]⟩)::(54,⟨T0,none,.dict #[⟨64522,.int 64522 279,.str "two_memories" 455⟩,⟨64523,.int 64523 281,.str cU 456⟩,⟨64524,.int 64524 283,.str "table_init" 457⟩,⟨64525,.int 64525 285,.str "elem" 458⟩,⟨64526,.int 64526 287,.str "table_copy" 459⟩,⟨64527,.int 64527 289,.str FJ 460⟩,⟨64528,.int 64528 291,.str FJ 461⟩,⟨64529,.int 64529 293,.str FJ 462⟩] 8,#[]⟩)::r
noncomputable def g5(P:b7)(r:Frag):Frag:=(55,(tv [.int (-1) 195]))::(56,(tv [.int (-1) 195]))::(57,(tv [.int 69 472,.int 69 473,.ref 55,.ref 56]))::(58,(tv [.int (-1) 195,.int (-1) 195]))::(59,(tv [.int (-1) 195]))::(60,(tv [.int 70 474,.int 79 475,.ref 58,.ref 59]))::(61,(tv [.int (-2) 198]))::(62,(tv [.int (-1) 195]))::(63,(tv [.int 80 476,.int 80 477,.ref 61,.ref 62]))::(64,(tv [.int (-2) 198,.int (-2) 198]))::(65,(tv [.int (-1) 195]))::(66,(tv [.int 81 478,.int 90 479,.ref 64,.ref 65]))::(67,(tv [.int (-1) 195]))::(68,(tv [.int (-1) 195]))::(69,(tv [.int 103 480,.int 105 481,.ref 67,.ref 68]))::(70,(tv [.int (-1) 195,.int (-1) 195]))::(71,(tv [.int (-1) 195]))::(72,(tv [.int 106 482,.int 120 483,.ref 70,.ref 71]))::(73,(tv [.int (-2) 198]))::(74,(tv [.int (-2) 198]))::(75,(tv [.int 121 484,.int 123 485,.ref 73,.ref 74]))::(76,(tv [.int (-2) 198,.int (-2) 198]))::(77,(tv [.int (-2) 198]))::(78,(tv [.int 124 486,.int 138 487,.ref 76,.ref 77]))::(79,(tv [.int (-2) 198]))::(80,(tv [.int (-1) 195]))::(81,(tv [.int 167 488,.int 167 489,.ref 79,.ref 80]))::(82,(tv [.int (-1) 195]))::(83,(tv [.int (-2) 198]))::(84,(tv [.int 172 490,.int 173 491,.ref 82,.ref 83]))::(85,(tv [.int (-1) 195]))::(86,(tv [.int (-1) 195]))::(87,(tv [.int 192 492,.int 193 493,.ref 85,.ref 86]))::(88,(tv [.int (-2) 198]))::(89,(tv [.int (-2) 198]))::(90,(tv [.int 194 494,.int 196 495,.ref 88,.ref 89]))::(91,(tv [.ref 57,.ref 60,.ref 63,.ref 66,.ref 69,.ref 72,.ref 75,.ref 78,.ref 81,.ref 84,.ref 87,.ref 90]))::f7 92 s90 s90 (fst 56) 500 ["code",cT,"most","params","results"] 497 59 1 505 s4 209 (f7 99 s91 s91 (fst 57) 511 ["code"] 508 64 1 512 s4 209 (f7 106 s92 s92 (fst 58) 518 ["code"] 515 70 1 519 s4 209 ((113,tz)::(114,fe)::(115,(fz qD qD (fst 59)))::(116,(cg [.str qD 522,.str qD 523,.str s1 524,.int 72 0,.int 1 0,.int 0 0,.int 0 0,.int 3 0,.ref 113,.bool true,.int 181 0,.ref 114,.none,.none,.none,.ref 115,.int 525 0,.int 72 0,.str s1 526]))::(117,(fn qD qD (fst 59) s4 209 116))::r)))
noncomputable def g6(P:b7)(o:Obj)(r:Frag):Frag:=(118,(tv [T2]))::(119,⟨T3,none,.fields #[T4,T5],#[]⟩)::(120,⟨T0,none,.dict #[⟨af P Y9,.str Y9 537,.str NL 528⟩,⟨af P V7,.str V7 539,.str XY 538⟩,⟨af P Y8,.str Y8 541,.int 77 540⟩,⟨af P Yr,.str Yr 549,.ref 131⟩,⟨af P Y7,.str Y7 551,.ref 132⟩] 5,#[]⟩)::(121,tz)::(122,⟨.none,none,.fields #[.int 79 0,.int 4 0,.ref 130],#[]⟩)::(123,(cg [.str XY 532,.str XY 533,.str s1 534,.int 77 0,.int 0 0,.int 0 0,.int 0 0,.int 0 0,.ref 121,.bool false,.int 181 0,.ref 122,.none,.none,.none,.none,.int 535 0,.int 77 0,.str s1 536]))::(124,⟨T6,none,.plain,#[some (.ref 123),some (.ref 3),some (.ref 120),none,some (.str NL 528),none,some (.ref 0)]⟩)::f7 125 Yr "WasmFault.__init__" (Uo 61 0) 545 [YS,"why"] 542 79 2 547 NL 528 ((132,(ts 550 ["why"]))::(133,⟨T0,none,.dict #[⟨af P Y9,.str Y9 537,.str NL 528⟩,⟨af P Y8,.str Y8 541,.int 77 540⟩,⟨af P Yr,.str Yr 549,.ref 131⟩,⟨af P Y7,.str Y7 551,.ref 132⟩,⟨af P V9,.str V9 553,.ref 135⟩,⟨af P s5,.str s5 554,.none⟩] 3,#[]⟩)::(134,o)::(135,⟨D0,none,.fields #[.str V9 552,.ref 134,xQ,.none],#[]⟩)::(136,⟨cV,none,.fields #[.ref 134,.ref 134,.ref 134],#[]⟩)::(137,⟨T3,none,.fields #[cS,.ref 134],#[]⟩)::r)
noncomputable def g7(P:b7)(r:Frag):Frag:=(138,(tv [.ref 134]))::(139,⟨T3,none,.fields #[T4,T5],#[]⟩)::(140,⟨T0,none,.dict #[⟨af P Y9,.str Y9 566,.str NL 528⟩,⟨af P V7,.str V7 568,.str LI 567⟩,⟨af P Y8,.str Y8 570,.int 82 569⟩,⟨af P Yr,.str Yr 579,.ref 151⟩,⟨af P Y7,.str Y7 581,.ref 152⟩] 5,#[]⟩)::(141,tz)::(142,⟨.none,none,.fields #[.int 84 0,.int 4 0,.ref 150],#[]⟩)::(143,(cg [.str LI 561,.str LI 562,.str s1 563,.int 82 0,.int 0 0,.int 0 0,.int 0 0,.int 0 0,.ref 141,.bool false,.int 181 0,.ref 142,.none,.none,.none,.none,.int 564 0,.int 82 0,.str s1 565]))::(144,⟨T6,none,.plain,#[some (.ref 143),some (.ref 3),some (.ref 140),none,some (.str NL 528),none,some (.ref 0)]⟩)::f7 145 Yr "Malformed.__init__" (Uo 62 0) 574 [YS,"why","at"] 571 84 3 577 NL 528 ((152,(ts 580 ["at"]))::(153,⟨T0,none,.dict #[⟨af P Y9,.str Y9 566,.str NL 528⟩,⟨af P Y8,.str Y8 570,.int 82 569⟩,⟨af P Yr,.str Yr 579,.ref 151⟩,⟨af P Y7,.str Y7 581,.ref 152⟩,⟨af P s5,.str s5 582,.none⟩] 2,#[]⟩)::(154,⟨T5,none,.cls ⟨LI,[.ref 134],[.ref 154,.ref 134,T2,T7,T8],153,LI,true,[],[],false,none,false⟩,#[some (.ref 138),none,some (.str LI 559),some (.str LI 567),some (T9),some (.bool true)]⟩)::(155,⟨cV,none,.fields #[.ref 154,.ref 154,.ref 154],#[]⟩)::(156,⟨T3,none,.fields #[cS,.ref 154],#[]⟩)::r)
noncomputable def g8(P:b7)(r:Frag):Frag:=(157,(tv [.ref 134]))::(158,⟨T3,none,.fields #[T4,T5],#[]⟩)::(159,⟨T0,none,.dict #[⟨af P Y9,.str Y9 592,.str NL 528⟩,⟨af P V7,.str V7 594,.str LJ 593⟩,⟨af P Y8,.str Y8 596,.int 87 595⟩,⟨af P Yr,.str Yr 605,.ref 170⟩,⟨af P Y7,.str Y7 607,.ref 171⟩] 5,#[]⟩)::(160,tz)::(161,⟨.none,none,.fields #[.int 89 0,.int 4 0,.ref 169],#[]⟩)::(162,(cg [.str LJ 587,.str LJ 588,.str s1 589,.int 87 0,.int 0 0,.int 0 0,.int 0 0,.int 0 0,.ref 160,.bool false,.int 181 0,.ref 161,.none,.none,.none,.none,.int 590 0,.int 87 0,.str s1 591]))::(163,⟨T6,none,.plain,#[some (.ref 162),some (.ref 3),some (.ref 159),none,some (.str NL 528),none,some (.ref 0)]⟩)::f7 164 Yr "LeftOut.__init__" (Uo 63 0) 600 [YS,"why","at"] 597 89 3 603 NL 528 ((171,(ts 606 ["at"]))::(172,⟨T0,none,.dict #[⟨af P Y9,.str Y9 592,.str NL 528⟩,⟨af P Y8,.str Y8 596,.int 87 595⟩,⟨af P Yr,.str Yr 605,.ref 170⟩,⟨af P Y7,.str Y7 607,.ref 171⟩,⟨af P s5,.str s5 608,.none⟩] 2,#[]⟩)::(173,⟨T5,none,.cls ⟨LJ,[.ref 134],[.ref 173,.ref 134,T2,T7,T8],172,LJ,true,[],[],false,none,false⟩,#[some (.ref 157),none,some (.str LJ 585),some (.str LJ 593),some (T9),some (.bool true)]⟩)::(174,⟨cV,none,.fields #[.ref 173,.ref 173,.ref 173],#[]⟩)::(175,⟨T3,none,.fields #[cS,.ref 173],#[]⟩)::r)
noncomputable def g9(P:b7)(r:Frag):Frag:=(176,(tv [.ref 134]))::(177,⟨T3,none,.fields #[T4,T5],#[]⟩)::(178,⟨T0,none,.dict #[⟨af P Y9,.str Y9 618,.str NL 528⟩,⟨af P V7,.str V7 620,.str LC 619⟩,⟨af P Y8,.str Y8 622,.int 92 621⟩,⟨af P Y7,.str Y7 623,.ref 183⟩] 4,#[]⟩)::(179,tz)::(180,fe)::(181,(cg [.str LC 613,.str LC 614,.str s1 615,.int 92 0,.int 0 0,.int 0 0,.int 0 0,.int 0 0,.ref 179,.bool false,.int 181 0,.ref 180,.none,.none,.none,.none,.int 616 0,.int 92 0,.str s1 617]))::(182,⟨T6,none,.plain,#[some (.ref 181),some (.ref 3),some (.ref 178),none,some (.str NL 528),none,some (.ref 0)]⟩)::(183,tz)::(184,⟨T0,none,.dict #[⟨af P Y9,.str Y9 618,.str NL 528⟩,⟨af P Y8,.str Y8 622,.int 92 621⟩,⟨af P Y7,.str Y7 623,.ref 183⟩,⟨af P s5,.str s5 624,.none⟩] 2,#[]⟩)::(185,⟨T5,none,.cls ⟨LC,[.ref 134],[.ref 185,.ref 134,T2,T7,T8],184,LC,true,[],[],false,none,false⟩,#[some (.ref 176),none,some (.str LC 611),some (.str LC 619),some (T9),some (.bool true)]⟩)::(186,⟨cV,none,.fields #[.ref 185,.ref 185,.ref 185],#[]⟩)::(187,⟨T3,none,.fields #[cS,.ref 185],#[]⟩)::r
noncomputable def xR(P:b7)(r:Frag):Frag:=(188,tz)::(189,⟨T3,none,.fields #[T4,T5],#[]⟩)::(190,⟨T0,none,.dict #[⟨af P Y9,.str Y9 642,.str VA 627⟩,⟨af P V7,.str V7 644,.str LG 643⟩,⟨af P Y8,.str Y8 646,.int 98 645⟩,⟨af P Yr,.str Yr 657,.ref 201⟩,⟨af P UC,.str UC 664,.ref 208⟩,⟨af P Y7,.str Y7 669,.ref 209⟩] 6,#[]⟩)::(191,tz)::(192,⟨.none,none,.fields #[.int 100 0,.int 4 0,.ref 200,.int 106 0,.int 4 0,.ref 207],#[]⟩)::(193,(cg [.str LG 637,.str LG 638,.str s1 639,.int 98 0,.int 0 0,.int 0 0,.int 0 0,.int 0 0,.ref 191,.bool false,.int 181 0,.ref 192,.none,.none,.none,.none,.int 640 0,.int 98 0,.str s1 641]))::(194,⟨T6,none,.plain,#[some (.ref 193),some (.ref 3),some (.ref 190),none,some (.str VA 627),none,some (.ref 0)]⟩)::f7 195 Yr "Import.__init__" (Uo 69 0) 650 [YS,"place","name","sort","about"] 647 100 5 655 VA 627 (f7 202 UC "Import.plain" (Uo 69 1) 661 [YS] 658 106 1 662 VA 627 ((209,(ts 665 ["about","name","place","sort"]))::(210,⟨T0,none,.dict #[⟨af P Y9,.str Y9 642,.str VA 627⟩,⟨af P Y8,.str Y8 646,.int 98 645⟩,⟨af P Yr,.str Yr 657,.ref 201⟩,⟨af P UC,.str UC 664,.ref 208⟩,⟨af P Y7,.str Y7 669,.ref 209⟩,⟨af P UB,.str UB 671,.ref 212⟩,⟨af P V9,.str V9 673,.ref 213⟩,⟨af P s5,.str s5 674,.none⟩] 4,#[]⟩)::(211,⟨T5,none,.cls ⟨LG,[T8],[.ref 211,T8],210,LG,true,[],[],false,none,false⟩,#[none,none,some (.str LG 635),some (.str LG 643),some (yM),some (.bool true)]⟩)::(212,⟨D0,none,.fields #[.str UB 670,.ref 211,yL,yU],#[]⟩)::(213,⟨D0,none,.fields #[.str V9 672,.ref 211,xQ,.none],#[]⟩)::(214,⟨cV,none,.fields #[.ref 211,.ref 211,.ref 211],#[]⟩)::(215,⟨T3,none,.fields #[cS,.ref 211],#[]⟩)::r))
noncomputable def g11(P:b7)(r:Frag):Frag:=(216,tz)::(217,⟨T3,none,.fields #[T4,T5],#[]⟩)::(218,⟨T0,none,.dict #[⟨af P Y9,.str Y9 684,.str VA 627⟩,⟨af P V7,.str V7 686,.str LM 685⟩,⟨af P Y8,.str Y8 688,.int 108 687⟩,⟨af P Yr,.str Yr 700,.ref 229⟩,⟨af P UC,.str UC 707,.ref 236⟩,⟨af P Y7,.str Y7 713,.ref 237⟩] 6,#[]⟩)::(219,tz)::(220,⟨.none,none,.fields #[.int 110 0,.int 4 0,.ref 228,.int 117 0,.int 4 0,.ref 235],#[]⟩)::(221,(cg [.str LM 679,.str LM 680,.str s1 681,.int 108 0,.int 0 0,.int 0 0,.int 0 0,.int 0 0,.ref 219,.bool false,.int 181 0,.ref 220,.none,.none,.none,.none,.int 682 0,.int 108 0,.str s1 683]))::(222,⟨T6,none,.plain,#[some (.ref 221),some (.ref 3),some (.ref 218),none,some (.str VA 627),none,some (.ref 0)]⟩)::f7 223 Yr "Elem.__init__" (Uo 70 0) 692 [YS,"mode",FJ,"offset","kind","inits"] 689 110 6 698 VA 627 (f7 230 UC "Elem.plain" (Uo 70 1) 704 [YS] 701 117 1 705 VA 627 ((237,(ts 708 ["inits","kind","mode","offset",FJ]))::(238,⟨T0,none,.dict #[⟨af P Y9,.str Y9 684,.str VA 627⟩,⟨af P Y8,.str Y8 688,.int 108 687⟩,⟨af P Yr,.str Yr 700,.ref 229⟩,⟨af P UC,.str UC 707,.ref 236⟩,⟨af P Y7,.str Y7 713,.ref 237⟩,⟨af P UB,.str UB 715,.ref 240⟩,⟨af P V9,.str V9 717,.ref 241⟩,⟨af P s5,.str s5 718,.none⟩] 4,#[]⟩)::(239,⟨T5,none,.cls ⟨LM,[T8],[.ref 239,T8],238,LM,true,[],[],false,none,false⟩,#[none,none,some (.str LM 677),some (.str LM 685),some (yM),some (.bool true)]⟩)::(240,⟨D0,none,.fields #[.str UB 714,.ref 239,yL,yU],#[]⟩)::(241,⟨D0,none,.fields #[.str V9 716,.ref 239,xQ,.none],#[]⟩)::(242,⟨cV,none,.fields #[.ref 239,.ref 239,.ref 239],#[]⟩)::(243,⟨T3,none,.fields #[cS,.ref 239],#[]⟩)::r))
noncomputable def g12(P:b7)(r:Frag):Frag:=(244,tz)::(245,⟨T3,none,.fields #[T4,T5],#[]⟩)::(246,⟨T0,none,.dict #[⟨af P Y9,.str Y9 728,.str VA 627⟩,⟨af P V7,.str V7 730,.str LK 729⟩,⟨af P Y8,.str Y8 732,.int 119 731⟩,⟨af P Yr,.str Yr 743,.ref 257⟩,⟨af P UC,.str UC 750,.ref 264⟩,⟨af P Y7,.str Y7 755,.ref 265⟩] 6,#[]⟩)::(247,tz)::(248,⟨.none,none,.fields #[.int 121 0,.int 4 0,.ref 256,.int 127 0,.int 4 0,.ref 263],#[]⟩)::(249,(cg [.str LK 723,.str LK 724,.str s1 725,.int 119 0,.int 0 0,.int 0 0,.int 0 0,.int 0 0,.ref 247,.bool false,.int 181 0,.ref 248,.none,.none,.none,.none,.int 726 0,.int 119 0,.str s1 727]))::(250,⟨T6,none,.plain,#[some (.ref 249),some (.ref 3),some (.ref 246),none,some (.str VA 627),none,some (.ref 0)]⟩)::f7 251 Yr "Data.__init__" (Uo 71 0) 736 [YS,"mode",cU,"offset",Ti] 733 121 5 741 VA 627 (f7 258 UC "Data.plain" (Uo 71 1) 747 [YS] 744 127 1 748 VA 627 ((265,(ts 751 [cU,"mode",Ti,"offset"]))::(266,⟨T0,none,.dict #[⟨af P Y9,.str Y9 728,.str VA 627⟩,⟨af P Y8,.str Y8 732,.int 119 731⟩,⟨af P Yr,.str Yr 743,.ref 257⟩,⟨af P UC,.str UC 750,.ref 264⟩,⟨af P Y7,.str Y7 755,.ref 265⟩,⟨af P UB,.str UB 757,.ref 268⟩,⟨af P V9,.str V9 759,.ref 269⟩,⟨af P s5,.str s5 760,.none⟩] 4,#[]⟩)::(267,⟨T5,none,.cls ⟨LK,[T8],[.ref 267,T8],266,LK,true,[],[],false,none,false⟩,#[none,none,some (.str LK 721),some (.str LK 729),some (yM),some (.bool true)]⟩)::(268,⟨D0,none,.fields #[.str UB 756,.ref 267,yL,yU],#[]⟩)::(269,⟨D0,none,.fields #[.str V9 758,.ref 267,xQ,.none],#[]⟩)::(270,⟨cV,none,.fields #[.ref 267,.ref 267,.ref 267],#[]⟩)::(271,⟨T3,none,.fields #[cS,.ref 267],#[]⟩)::f7 272 qG qG (fst 76) 774 [V8,"kind"] 771 133 2 776 WB 763 (f7 279 qP qP (fst 77) 782 [V8,"kinds","kind"] 779 135 2 785 WB 763 (f7 286 qW qW (fst 78) 791 [V8,cT,"most"] 788 139 3 794 WB 763 (r)))))
noncomputable def g13(P:b7)(r:Frag):Frag:=f7 293 oM oM (fst 79) 800 [V8,"kind","params","results"] 797 144 2 804 WB 763 (f7 300 qE qE (fst 80) 810 [V8,"about","kind",cT,"most"] 807 149 2 815 WB 763 (f7 307 qQ qQ (fst 81) 821 [V8,"about",cT,"most"] 818 153 2 825 WB 763 (f7 314 qX qX (fst 82) 831 [V8,"about","kind","mutable"] 828 156 2 835 WB 763 (f7 321 oH oH (fst 83) 841 [V8,"one"] 838 160 2 843 WB 763 (f7 328 pZ pZ (fst 84) 849 [V8,"one","name","sort","index"] 846 174 2 854 WB 763 (f7 335 pU pU (fst 85) 860 [V8,"kind"] 857 179 2 862 WB 763 (f7 342 oO oO (fst 86) 868 [V8,"code"] 865 184 2 870 WB 763 (f7 349 nY nY (fst 87) 876 [V8,"numbers","number"] 873 190 2 879 WB 763 (f7 356 oP oP (fst 88) 885 [V8,"form","numbers"] 882 193 3 888 WB 763 (f7 363 rB rB (fst 89) 894 [V8,"instruction","code","form"] 891 211 2 898 WB 763 (f7 370 pW pW (fst 90) 904 [V8,"body","instruction"] 901 218 2 907 WB 763 (r))))))))))))
noncomputable def g14(P:b7)(r:Frag):Frag:=f7 377 qZ qZ (fst 91) 913 ["init"] 910 221 1 914 WB 763 ((384,tz)::(385,fe)::(386,(fz Ig Ig (fst 92)))::(387,(cg [.str Ig 917,.str Ig 918,.str s1 919,.int 225 0,.int 2 0,.int 0 0,.int 0 0,.int 3 0,.ref 384,.bool true,.int 181 0,.ref 385,.none,.none,.none,.ref 386,.int 920 0,.int 225 0,.str s1 921]))::(388,(fn Ig Ig (fst 92) WB 763 387))::f7 389 oA oA (fst 93) 926 [V8,"one"] 923 246 2 928 WB 763 ((396,(tv [.int 64520 275,.int 64521 277]))::(397,(tv [.int (-3) 941,.int (-4) 943]))::f7 398 qA qA (fst 102) 953 [XM,"part","found","turn"] 950 266 2 957 Xz 931 (f7 405 oJ oJ (fst 103) 963 [XM] 960 271 1 964 Xz 931 (f7 412 oN oN (fst 104) 970 ["kind","at"] 967 273 2 972 Xz 931 (f7 419 qL qL (fst 105) 978 [XM,"why","at","kind"] 975 278 2 982 Xz 931 (f7 426 qY qY (fst 106) 988 [XM] 985 285 1 989 Xz 931 (f7 433 pD pD (fst 107) 995 [XM,"at","kind"] 992 287 1 998 Xz 931 (f7 440 pB pB (fst 108) 1004 [XM,"at","params","results"] 1001 293 1 1008 Xz 931 (r)))))))))
noncomputable def g15(P:b7)(r:Frag):Frag:=f7 447 pS pS (fst 109) 1014 [XM,"at","flag",cT] 1011 300 1 1018 Xz 931 (f7 454 pM pM (fst 110) 1024 [XM,"kind",cT,"most"] 1021 307 1 1028 Xz 931 (f7 461 qJ qJ (fst 111) 1034 [XM] 1031 311 1 1035 Xz 931 (f7 468 pH pH (fst 112) 1041 [XM,"kind","at","mutable"] 1038 313 1 1045 Xz 931 (f7 475 oU oU (fst 113) 1051 [XM,"place","name","at","sort"] 1048 320 1 1056 Xz 931 (f7 482 oG oG (fst 114) 1062 [XM,"name","at","sort"] 1059 334 1 1066 Xz 931 (f7 489 pX pX (fst 115) 1072 [XM,"at","index"] 1069 341 1 1075 Xz 931 (f7 496 pN pN (fst 116) 1081 [XM,"at"] 1078 352 1 1083 Xz 931 (f7 503 pY pY (fst 117) 1089 [XM,"at","align"] 1086 356 1 1092 Xz 931 (f7 510 pO pO (fst 118) 1098 [XM,"labels"] 1095 362 1 1100 Xz 931 (f7 517 oB oB (fst 119) 1106 [XM,"form"] 1103 366 2 1108 Xz 931 (f7 524 pR pR (fst 120) 1114 [XM,"form","found","first"] 1111 382 2 1118 Xz 931 (r))))))))))))
noncomputable def g16(P:b7)(r:Frag):Frag:=f7 531 qK qK (fst 121) 1124 [XM,"at","code","sub"] 1121 401 1 1128 Xz 931 (f7 538 pG pG (fst 122) 1134 [XM,"has_count","body","around","at","code"] 1131 414 2 1140 Xz 931 (f7 545 oZ oZ (fst 123) 1146 [XM] 1143 434 1 1147 Xz 931 (f7 552 qR qR (fst 124) 1153 [XM,"at"] 1150 436 1 1155 Xz 931 ((559,tz)::(560,fe)::(561,(fz Ib Ib (fst 125)))::(562,(cg [.str Ib 1158,.str Ib 1159,.str s1 1160,.int 441 0,.int 1 0,.int 0 0,.int 0 0,.int 3 0,.ref 559,.bool true,.int 181 0,.ref 560,.none,.none,.none,.ref 561,.int 1161 0,.int 441 0,.str s1 1162]))::(563,(fn Ib Ib (fst 125) Xz 931 562))::f7 564 oW oW (fst 126) 1167 [XM,"at","form",cU,"offset",Ti] 1164 459 1 1173 Xz 931 (r)))))
noncomputable def g17(P:b7)(r:Frag):Frag:=(571,tz)::(572,⟨T3,none,.fields #[T4,T5],#[]⟩)::(573,⟨T0,none,.dict #[⟨af P Y9,.str Y9 1185,.str YA 1176⟩,⟨af P V7,.str V7 1187,.str LP 1186⟩,⟨af P Y8,.str Y8 1189,.int 469 1188⟩,⟨af P Yr,.str Yr 1200,.ref 585⟩,⟨af P "left",.str "left" 1207,.ref 592⟩,⟨af P "is_done",.str "is_done" 1214,.ref 599⟩,⟨af P "peek",.str "peek" 1221,.ref 606⟩,⟨af P Tg,.str Tg 1229,.ref 613⟩,⟨af P "take",.str "take" 1238,.ref 620⟩,⟨af P "part",.str "part" 1247,.ref 627⟩,⟨af P Om,.str Om 1260,.ref 634⟩,⟨af P Ol,.str Ol 1273,.ref 641⟩,⟨af P "u32",.str "u32" 1280,.ref 648⟩,⟨af P "s7",.str "s7" 1287,.ref 655⟩,⟨af P "s32",.str "s32" 1294,.ref 662⟩,⟨af P "s33",.str "s33" 1301,.ref 669⟩,⟨af P "s64",.str "s64" 1308,.ref 676⟩,⟨af P "name",.str "name" 1317,.ref 683⟩,⟨af P Y7,.str Y7 1321,.ref 684⟩] 19,#[]⟩)::(574,tz)::(575,⟨.none,none,.fields #[.int 471 0,.int 4 0,.ref 584,.int 476 0,.int 4 0,.ref 591,.int 479 0,.int 4 0,.ref 598,.int 482 0,.int 4 0,.ref 605,.int 487 0,.int 4 0,.ref 612,.int 492 0,.int 4 0,.ref 619,.int 499 0,.int 4 0,.ref 626,.int 506 0,.int 4 0,.ref 633,.int 520 0,.int 4 0,.ref 640,.int 534 0,.int 4 0,.ref 647,.int 537 0,.int 4 0,.ref 654,.int 540 0,.int 4 0,.ref 661,.int 543 0,.int 4 0,.ref 668,.int 546 0,.int 4 0,.ref 675,.int 549 0,.int 4 0,.ref 682],#[]⟩)::(576,(cg [.str LP 1180,.str LP 1181,.str s1 1182,.int 469 0,.int 0 0,.int 0 0,.int 0 0,.int 0 0,.ref 574,.bool false,.int 181 0,.ref 575,.none,.none,.none,.none,.int 1183 0,.int 469 0,.str s1 1184]))::(577,⟨T6,none,.plain,#[some (.ref 576),some (.ref 3),some (.ref 573),none,some (.str YA 1176),none,some (.ref 0)]⟩)::(578,(tv [.int 0 1190,.none]))::(579,tz)::(580,fe)::(581,(ts 1194 [YS,Ti,"at","end"]))::(582,tz)::(583,(fz Yr "Cursor.__init__" (Uo 128 0)))::(584,(cd Yr "Cursor.__init__" 1191 471 4 579 1198))::(585,⟨T17,none,.func (fd Yr "Cursor.__init__" (Uo 128 0) 3 [] (.ref 578) .none .none (.str YA 1176) none (.ref 584) .none 0),#[]⟩)::f7 586 "left" "Cursor.left" (Uo 128 1) 1204 [YS] 1201 476 1 1205 YA 1176 (f7 593 "is_done" "Cursor.is_done" (Uo 128 2) 1211 [YS] 1208 479 1 1212 YA 1176 (f7 600 "peek" "Cursor.peek" (Uo 128 3) 1218 [YS] 1215 482 1 1219 YA 1176 (f7 607 Tg "Cursor.octet" (Uo 128 4) 1225 [YS,"found"] 1222 487 1 1227 YA 1176 (f7 614 "take" "Cursor.take" (Uo 128 5) 1233 [YS,"many","found"] 1230 492 2 1236 YA 1176 (f7 621 "part" "Cursor.part" (Uo 128 6) 1242 [YS,"many","found"] 1239 499 2 1245 YA 1176 (f7 628 Om "Cursor.unsigned" (Uo 128 7) 1251 [YS,"bits","found","shift","begin",Tg,"left"] 1248 506 2 1258 YA 1176 (f7 635 Ol "Cursor.signed" (Uo 128 8) 1264 [YS,"bits","found","shift","begin",Tg,"left"] 1261 520 2 1271 YA 1176 (f7 642 "u32" "Cursor.u32" (Uo 128 9) 1277 [YS] 1274 534 1 1278 YA 1176 (f7 649 "s7" "Cursor.s7" (Uo 128 10) 1284 [YS] 1281 537 1 1285 YA 1176 (f7 656 "s32" "Cursor.s32" (Uo 128 11) 1291 [YS] 1288 540 1 1292 YA 1176 (f7 663 "s33" "Cursor.s33" (Uo 128 12) 1298 [YS] 1295 543 1 1299 YA 1176 (f7 670 "s64" "Cursor.s64" (Uo 128 13) 1305 [YS] 1302 546 1 1306 YA 1176 (f7 677 "name" "Cursor.name" (Uo 128 14) 1312 [YS,"many","begin"] 1309 549 1 1315 YA 1176 ((684,(ts 1318 ["at","end",Ti]))::(685,⟨T0,none,.dict #[⟨af P Y9,.str Y9 1185,.str YA 1176⟩,⟨af P Y8,.str Y8 1189,.int 469 1188⟩,⟨af P Yr,.str Yr 1200,.ref 585⟩,⟨af P "left",.str "left" 1207,.ref 592⟩,⟨af P "is_done",.str "is_done" 1214,.ref 599⟩,⟨af P "peek",.str "peek" 1221,.ref 606⟩,⟨af P Tg,.str Tg 1229,.ref 613⟩,⟨af P "take",.str "take" 1238,.ref 620⟩,⟨af P "part",.str "part" 1247,.ref 627⟩,⟨af P Om,.str Om 1260,.ref 634⟩,⟨af P Ol,.str Ol 1273,.ref 641⟩,⟨af P "u32",.str "u32" 1280,.ref 648⟩,⟨af P "s7",.str "s7" 1287,.ref 655⟩,⟨af P "s32",.str "s32" 1294,.ref 662⟩,⟨af P "s33",.str "s33" 1301,.ref 669⟩,⟨af P "s64",.str "s64" 1308,.ref 676⟩,⟨af P "name",.str "name" 1317,.ref 683⟩,⟨af P Y7,.str Y7 1321,.ref 684⟩,⟨af P UB,.str UB 1323,.ref 687⟩,⟨af P V9,.str V9 1325,.ref 688⟩,⟨af P s5,.str s5 1326,.none⟩] 4,#[]⟩)::(686,⟨T5,none,.cls ⟨LP,[T8],[.ref 686,T8],685,LP,true,[],[],false,none,false⟩,#[none,none,some (.str LP 1178),some (.str LP 1186),some (yM),some (.bool true)]⟩)::(687,⟨D0,none,.fields #[.str UB 1322,.ref 686,yL,yU],#[]⟩)::(688,⟨D0,none,.fields #[.str V9 1324,.ref 686,xQ,.none],#[]⟩)::(689,⟨cV,none,.fields #[.ref 686,.ref 686,.ref 686],#[]⟩)::(690,⟨T3,none,.fields #[cS,.ref 686],#[]⟩)::r))))))))))))))
noncomputable def g18(P:b7)(r:Frag):Frag:=(691,tz)::(692,⟨T3,none,.fields #[T4,T5],#[]⟩)::(693,⟨T0,none,.dict #[⟨af P Y9,.str Y9 1336,.str YA 1176⟩,⟨af P V7,.str V7 1338,.str LH 1337⟩,⟨af P Y8,.str Y8 1340,.int 555 1339⟩,⟨af P Yr,.str Yr 1347,.ref 704⟩,⟨af P Tg,.str Tg 1355,.ref 711⟩,⟨af P "put",.str "put" 1363,.ref 718⟩,⟨af P Om,.str Om 1371,.ref 725⟩,⟨af P Ol,.str Ol 1379,.ref 732⟩,⟨af P "many",.str "many" 1387,.ref 739⟩,⟨af P "name",.str "name" 1396,.ref 746⟩,⟨af P "sized",.str "sized" 1404,.ref 753⟩,⟨af P Y7,.str Y7 1406,.ref 754⟩] 12,#[]⟩)::(694,tz)::(695,⟨.none,none,.fields #[.int 557 0,.int 4 0,.ref 703,.int 560 0,.int 4 0,.ref 710,.int 563 0,.int 4 0,.ref 717,.int 566 0,.int 4 0,.ref 724,.int 574 0,.int 4 0,.ref 731,.int 580 0,.int 4 0,.ref 738,.int 583 0,.int 4 0,.ref 745,.int 588 0,.int 4 0,.ref 752],#[]⟩)::(696,(cg [.str LH 1331,.str LH 1332,.str s1 1333,.int 555 0,.int 0 0,.int 0 0,.int 0 0,.int 0 0,.ref 694,.bool false,.int 181 0,.ref 695,.none,.none,.none,.none,.int 1334 0,.int 555 0,.str s1 1335]))::(697,⟨T6,none,.plain,#[some (.ref 696),some (.ref 3),some (.ref 693),none,some (.str YA 1176),none,some (.ref 0)]⟩)::f7 698 Yr "Sink.__init__" (Uo 129 0) 1344 [YS] 1341 557 1 1345 YA 1176 (f7 705 Tg "Sink.octet" (Uo 129 1) 1351 [YS,"number"] 1348 560 2 1353 YA 1176 (f7 712 "put" "Sink.put" (Uo 129 2) 1359 [YS,Ti] 1356 563 2 1361 YA 1176 (f7 719 Om "Sink.unsigned" (Uo 129 3) 1367 [YS,"number"] 1364 566 2 1369 YA 1176 (f7 726 Ol "Sink.signed" (Uo 129 4) 1375 [YS,"number"] 1372 574 2 1377 YA 1176 (f7 733 "many" "Sink.many" (Uo 129 5) 1383 [YS,"number"] 1380 580 2 1385 YA 1176 (f7 740 "name" "Sink.name" (Uo 129 6) 1391 [YS,"text",Ti] 1388 583 2 1394 YA 1176 (f7 747 "sized" "Sink.sized" (Uo 129 7) 1400 [YS,V8] 1397 588 2 1402 YA 1176 ((754,(ts 1405 [Ti]))::(755,⟨T0,none,.dict #[⟨af P Y9,.str Y9 1336,.str YA 1176⟩,⟨af P Y8,.str Y8 1340,.int 555 1339⟩,⟨af P Yr,.str Yr 1347,.ref 704⟩,⟨af P Tg,.str Tg 1355,.ref 711⟩,⟨af P "put",.str "put" 1363,.ref 718⟩,⟨af P Om,.str Om 1371,.ref 725⟩,⟨af P Ol,.str Ol 1379,.ref 732⟩,⟨af P "many",.str "many" 1387,.ref 739⟩,⟨af P "name",.str "name" 1396,.ref 746⟩,⟨af P "sized",.str "sized" 1404,.ref 753⟩,⟨af P Y7,.str Y7 1406,.ref 754⟩,⟨af P UB,.str UB 1408,.ref 757⟩,⟨af P V9,.str V9 1410,.ref 758⟩,⟨af P s5,.str s5 1411,.none⟩] 4,#[]⟩)::(756,⟨T5,none,.cls ⟨LH,[T8],[.ref 756,T8],755,LH,true,[],[],false,none,false⟩,#[none,none,some (.str LH 1329),some (.str LH 1337),some (yM),some (.bool true)]⟩)::(757,⟨D0,none,.fields #[.str UB 1407,.ref 756,yL,yU],#[]⟩)::(758,⟨D0,none,.fields #[.str V9 1409,.ref 756,xQ,.none],#[]⟩)::(759,⟨cV,none,.fields #[.ref 756,.ref 756,.ref 756],#[]⟩)::(760,⟨T3,none,.fields #[cS,.ref 756],#[]⟩)::r))))))))
noncomputable def g19(P:b7)(r:Frag):Frag:=f7 761 oE oE (fst 130) 1417 ["text","found","sign","point"] 1414 590 1 1421 YA 1176 (f7 768 pL pL (fst 131) 1427 [Tg,"at"] 1424 605 2 1429 YA 1176 ((775,(tv [.int 0 1432]))::(776,tz)::(777,fe)::(778,(ts 1436 [Ti,"begin","signs","at","follow","point",cT,Tg]))::(779,tz)::(780,(fz Ih Ih (fst 132)))::(781,(cd Ih Ih 1433 615 2 776 1444))::(782,⟨T17,none,.func (fd Ih Ih (fst 132) 3 [] (.ref 775) .none .none (.str YA 1176) none (.ref 781) .none 0),#[]⟩)::f7 783 qU qU (fst 134) 1452 ["digits"] 1449 631 1 1453 YH 1447 (f7 790 pQ pQ (fst 135) 1459 ["one","many","found"] 1456 633 2 1462 YH 1447 (f7 797 qO qO (fst 136) 0 [] 1465 637 0 1468 YH 1447 (f7 804 pF pF (fst 137) 1474 ["one"] 1471 639 1 1475 YH 1447 (f7 811 rA rA (fst 138) 1481 ["one","way"] 1478 641 1 1483 YH 1447 (f7 818 qN qN (fst 139) 1489 ["one","bits","way"] 1486 646 2 1492 YH 1447 (f7 825 pT pT (fst 140) 1498 ["one"] 1495 653 1 1499 YH 1447 ((832,tz)::(833,fe)::(834,(fz JY JY (fst 141)))::(835,(cg [.str JY 1502,.str JY 1503,.str s1 1504,.int 655 0,.int 1 0,.int 0 0,.int 0 0,.int 3 0,.ref 832,.bool true,.int 181 0,.ref 833,.none,.none,.none,.ref 834,.int 1505 0,.int 655 0,.str s1 1506]))::(836,(fn JY JY (fst 141) YH 1447 835))::f7 837 pP pP (fst 142) 1511 ["one",cT] 1508 657 1 1513 YH 1447 (r))))))))))
noncomputable def g20(P:b7)(r:Frag):Frag:=f7 844 oK oK (fst 143) 1519 ["one","way"] 1516 660 1 1521 YH 1447 (f7 851 qI qI (fst 144) 1527 ["one","mode",FJ,"way","kind","inits","k","index","firsts"] 1524 669 1 1536 YH 1447 ((858,tz)::(859,fe)::(860,(fz JW JW (fst 145)))::(861,(cg [.str JW 1539,.str JW 1540,.str s1 1541,.int 680 0,.int 1 0,.int 0 0,.int 0 0,.int 3 0,.ref 858,.bool true,.int 181 0,.ref 859,.none,.none,.none,.ref 860,.int 1542 0,.int 680 0,.str s1 1543]))::(862,(fn JW JW (fst 145) YH 1447 861))::f7 863 qM qM (fst 146) 1548 ["one","sort","kind"] 1545 685 2 1551 YH 1447 (f7 870 qC qC (fst 147) 1557 ["one","sort","place","name","about","params","space"] 1554 694 2 1564 YH 1447 ((877,tz)::(878,fe)::(879,(fz Ic Ic (fst 148)))::(880,(cg [.str Ic 1567,.str Ic 1568,.str s1 1569,.int 712 0,.int 2 0,.int 0 0,.int 0 0,.int 3 0,.ref 877,.bool true,.int 181 0,.ref 878,.none,.none,.none,.ref 879,.int 1570 0,.int 712 0,.str s1 1571]))::(881,(fn Ic Ic (fst 148) YH 1447 880))::f7 882 oR oR (fst 149) 1576 ["number","pad","many"] 1573 714 2 1579 YH 1447 (f7 889 oV oV (fst 150) 1585 ["number","bits","pad","many"] 1582 719 3 1589 YH 1447 (f7 896 pJ pJ (fst 151) 1595 ["parts","pad",Ti,"part"] 1592 724 2 1599 YH 1447 ((903,tz)::(904,fe)::(905,(fz JV JV (fst 152)))::(906,(cg [.str JV 1602,.str JV 1603,.str s1 1604,.int 729 0,.int 2 0,.int 0 0,.int 0 0,.int 3 0,.ref 903,.bool true,.int 181 0,.ref 904,.none,.none,.none,.ref 905,.int 1605 0,.int 729 0,.str s1 1606]))::(907,(fn JV JV (fst 152) YH 1447 906))::f7 908 pV pV (fst 153) 1611 ["body","pad",Ti,"instruction","code"] 1608 731 2 1616 YH 1447 ((915,tz)::(916,fe)::(917,(fz JZ JZ (fst 154)))::(918,(cg [.str JZ 1619,.str JZ 1620,.str s1 1621,.int 743 0,.int 2 0,.int 0 0,.int 0 0,.int 3 0,.ref 915,.bool true,.int 181 0,.ref 916,.none,.none,.none,.ref 917,.int 1622 0,.int 743 0,.str s1 1623]))::(919,(fn JZ JZ (fst 154) YH 1447 918))::(920,tz)::(921,fe)::(922,(fz Ia Ia (fst 155)))::(923,(cg [.str Ia 1625,.str Ia 1626,.str s1 1627,.int 760 0,.int 2 0,.int 0 0,.int 0 0,.int 3 0,.ref 920,.bool true,.int 181 0,.ref 921,.none,.none,.none,.ref 922,.int 1628 0,.int 760 0,.str s1 1629]))::(924,(fn Ia Ia (fst 155) YH 1447 923))::r))))))))
noncomputable def g21(P:b7)(r:Frag):Frag:=f7 925 pK pK (fst 156) 1634 ["about","sort","pad",Ti,cT,"most"] 1631 768 3 1640 YH 1447 ((932,tz)::(933,fe)::(934,(fz Ie Ie (fst 157)))::(935,(cg [.str Ie 1643,.str Ie 1644,.str s1 1645,.int 778 0,.int 3 0,.int 0 0,.int 0 0,.int 3 0,.ref 932,.bool true,.int 181 0,.ref 933,.none,.none,.none,.ref 934,.int 1646 0,.int 778 0,.str s1 1647]))::(936,(fn Ie Ie (fst 157) YH 1447 935))::f7 937 pC pC (fst 158) 1652 [V8,"thing","sort"] 1649 793 3 1655 YH 1447 (f7 944 qB qB (fst 159) 1661 [XM,"sort","one"] 1658 810 2 1664 YH 1447 (f7 951 rC rC (fst 160) 1670 [Ti,"begin","end","sort",XM,"thing","fault"] 1667 827 4 1677 YH 1447 (f7 958 qS qS (fst 161) 1683 ["thing","sort","pad","begin","cut","at","texts","text","behind"] 1680 836 5 1692 YH 1447 (f7 965 oY oY (fst 162) 1698 ["one","great","kind","flags","utf8","rows","sort",Ti,"why","off"] 1695 848 1 1708 YH 1447 ((972,tz)::(973,fe)::(974,(fz JX JX (fst 163)))::(975,(cg [.str JX 1711,.str JX 1712,.str s1 1713,.int 856 0,.int 1 0,.int 0 0,.int 0 0,.int 3 0,.ref 972,.bool true,.int 181 0,.ref 973,.none,.none,.none,.ref 974,.int 1714 0,.int 856 0,.str s1 1715]))::(976,(fn JX JX (fst 163) YH 1447 975))::r))))))
noncomputable def HA(P:b7):Heap:=⟨#[boot_o_0 P,boot_o_1 P,boot_o_2 P,boot_o_3 P,boot_o_4 P,boot_o_5 P,boot_o_6 P,boot_o_7 P,boot_o_8 P,boot_o_9 P,boot_o_10 P,tz,fe,(cg [.str s0 182,.str s0 183,.str s1 184,.int 1 0,.int 0 0,.int 0 0,.int 0 0,.int 0 0,.ref 11,.bool false,.int 181 0,.ref 12,.none,.none,.none,.none,.int 185 0,.int 1 0,.str s1 186]),⟨T6,none,.plain,#[some (.ref 13),some (.ref 3),some (.ref 3),none,some (.str "__main__" 164),none,some (.ref 0)]⟩],{}⟩
noncomputable def t0(P:b7):BT:=(.node (boot_o_0 P) (.node (boot_o_1 P) (.node (boot_o_3 P) (.node (boot_o_7 P) .nil .nil) (.node tz .nil .nil)) (.node (boot_o_5 P) (.node (boot_o_9 P) .nil .nil) (.node (cg [.str s0 182,.str s0 183,.str s1 184,.int 1 0,.int 0 0,.int 0 0,.int 0 0,.int 0 0,.ref 11,.bool false,.int 181 0,.ref 12,.none,.none,.none,.none,.int 185 0,.int 1 0,.str s1 186]) .nil .nil))) (.node (boot_o_2 P) (.node (boot_o_4 P) (.node (boot_o_8 P) .nil .nil) (.node fe .nil .nil)) (.node (boot_o_6 P) (.node (boot_o_10 P) .nil .nil) (.node ⟨T6,none,.plain,#[some (.ref 13),some (.ref 3),some (.ref 3),none,some (.str "__main__" 164),none,some (.ref 0)]⟩ .nil .nil))))
noncomputable def t1(P:b7):BT:=W0 (g1 P []) (((t0 P).set 3 fun _=>(D3 P (s3,165,.str s4 209) 46 47)).set 12 fun _=>(F3 1))
noncomputable def t2(P:b7):BT:=W0 (g2 P []) ((t1 P).set 3 fun _=>(D3 P (s3,165,.str s4 209) 59 60))
noncomputable def t3(P:b7):BT:=W0 (g3 P []) ((t2 P).set 3 fun _=>(D3 P (s3,165,.str s4 209) 61 62))
noncomputable def t4(P:b7):BT:=W0 (g4 P []) ((t3 P).set 3 fun _=>(D3 P (s3,165,.str s4 209) 62 63))
noncomputable def t5(P:b7):BT:=W0 (g5 P []) (((t4 P).set 3 fun _=>(D3 P (s3,165,.str NL 528) 67 68)).set 12 fun _=>(F3 5))
noncomputable def t6(P:b7):BT:=W0 (g6 P ⟨T5,none,.cls ⟨XY,[T2],[.ref 134,T2,T7,T8],133,XY,true,[],[],false,none,false⟩,#[some (.ref 118),none,some (.str XY 530),some (.str XY 538),some (T9),some (.bool true)]⟩ []) ((((t5 P).set 2 fun _=>⟨.none,none,.dict #[⟨af P s99,.str s99 555,.int 134 0⟩,⟨af P cW,.str cW 556,.int 1 0⟩] 2,#[]⟩).set 3 fun _=>(D3 P (s3,165,.str NL 528) 68 69)).set 12 fun _=>(F3 6))
noncomputable def t7(P:b7):BT:=W0 (g7 P []) ((((t6 P).set 3 fun _=>(D3 P (s3,165,.str NL 528) 69 70)).set 12 fun _=>(F3 7)).set 134 fun _=>⟨T5,none,.cls ⟨XY,[T2],[.ref 134,T2,T7,T8],133,XY,true,[],[.ref 154],false,none,false⟩,#[some (.ref 118),none,some (.str XY 530),some (.str XY 538),some (T9),some (.bool true)]⟩)
noncomputable def t8(P:b7):BT:=W0 (g8 P []) ((((t7 P).set 3 fun _=>(D3 P (s3,165,.str NL 528) 70 71)).set 12 fun _=>(F3 8)).set 134 fun _=>⟨T5,none,.cls ⟨XY,[T2],[.ref 134,T2,T7,T8],133,XY,true,[],[.ref 154,.ref 173],false,none,false⟩,#[some (.ref 118),none,some (.str XY 530),some (.str XY 538),some (T9),some (.bool true)]⟩)
noncomputable def t9(P:b7):BT:=W0 (g9 P []) ((((t8 P).set 3 fun _=>(D3 P (s3,165,.str VA 627) 74 75)).set 12 fun _=>(F3 9)).set 134 fun _=>⟨T5,none,.cls ⟨XY,[T2],[.ref 134,T2,T7,T8],133,XY,true,[],[.ref 154,.ref 173,.ref 185],false,none,false⟩,#[some (.ref 118),none,some (.str XY 530),some (.str XY 538),some (T9),some (.bool true)]⟩)
noncomputable def t10(P:b7):BT:=W0 (xR P []) (((t9 P).set 3 fun _=>(D3 P (s3,165,.str VA 627) 75 76)).set 12 fun _=>(F3 10))
noncomputable def t11(P:b7):BT:=W0 (g11 P []) (((t10 P).set 3 fun _=>(D3 P (s3,165,.str VA 627) 76 77)).set 12 fun _=>(F3 11))
noncomputable def t12(P:b7):BT:=W0 (g12 P []) (((t11 P).set 3 fun _=>(D3 P (s3,165,.str WB 763) 83 84)).set 12 fun _=>(F3 15))
noncomputable def t13(P:b7):BT:=W0 (g13 P []) (((t12 P).set 3 fun _=>(D3 P (s3,165,.str WB 763) 95 96)).set 12 fun _=>(F3 27))
noncomputable def t14(P:b7):BT:=W0 (g14 P []) (((t13 P).set 3 fun _=>(D3 P (s3,165,.str Xz 931) 112 113)).set 12 fun _=>(F3 37))
noncomputable def t15(P:b7):BT:=W0 (g15 P []) (((t14 P).set 3 fun _=>(D3 P (s3,165,.str Xz 931) 124 125)).set 12 fun _=>(F3 49))
noncomputable def t16(P:b7):BT:=W0 (g16 P []) (((t15 P).set 3 fun _=>(D3 P (s3,165,.str YA 1176) 130 131)).set 12 fun _=>(F3 55))
noncomputable def t17(P:b7):BT:=W0 (g17 P []) (((t16 P).set 3 fun _=>(D3 P (s3,165,.str YA 1176) 131 132)).set 12 fun _=>(F3 56))
noncomputable def t18(P:b7):BT:=W0 (g18 P []) (((t17 P).set 3 fun _=>(D3 P (s3,165,.str YA 1176) 132 133)).set 12 fun _=>(F3 57))
noncomputable def t19(P:b7):BT:=W0 (g19 P []) (((t18 P).set 3 fun _=>(D3 P (s3,165,.str YH 1447) 144 145)).set 12 fun _=>(F3 69))
noncomputable def t20(P:b7):BT:=W0 (g20 P []) (((t19 P).set 3 fun _=>(D3 P (s3,165,.str YH 1447) 157 158)).set 12 fun _=>(F3 82))
noncomputable def t21(P:b7):BT:=W0 (g21 P []) (((t20 P).set 3 fun _=>(D3 P (s3,165,.str YH 1447) 165 166)).set 12 fun _=>(F3 90))
noncomputable abbrev bB:List Stmt:=behindTheImports P0
noncomputable abbrev Z2:Env:={scope:=P0.main.scope,locals:=mainNs,globals:=mainNs,cells:=[],code:= .ref 13,frame:=some 14}
noncomputable abbrev cB:Code:= .body bB Z2
noncomputable abbrev Sy:Drawn:=⟨0,0,0,0⟩
noncomputable abbrev q0:Pos:=⟨0,0,0,0⟩
noncomputable abbrev Z0:Option aa:=some (.ref 6)
noncomputable abbrev B0:List Frame:=[topFrame q0]
noncomputable abbrev S0(w:b3)(os:b5):ai:=⟨uo w.params,gh [],boot_drawn,boot_toks,os⟩
noncomputable abbrev SA(w:b3)(os:b5):ai:=⟨HA w.params,gh [],Sy,187,os⟩
noncomputable def zL(w:b3)(os:b5):kc:=⟨t0 w.params,15,{},gh [],Sy,187,os⟩
noncomputable def lS(w:b3)(os:b5):kc:=⟨t1 w.params,22,{},gh [],Sy,275,os⟩
noncomputable def DQ(w:b3)(os:b5):kc:=⟨t2 w.params,35,{},gh [],Sy,348,os⟩
noncomputable def D5(w:b3)(os:b5):kc:=⟨t3 w.params,52,{},gh [],Sy,387,os⟩
noncomputable def lR(w:b3)(os:b5):kc:=⟨t4 w.params,55,{},gh [],Sy,472,os⟩
noncomputable def yZ(w:b3)(os:b5):kc:=⟨t5 w.params,118,{},gh [],Sy,530,os⟩
noncomputable def zN(w:b3)(os:b5):kc:=⟨t6 w.params,138,{},gh [],Sy,559,os⟩
noncomputable def zF(w:b3)(os:b5):kc:=⟨t7 w.params,157,{},gh [],Sy,585,os⟩
noncomputable def zI(w:b3)(os:b5):kc:=⟨t8 w.params,176,{},gh [],Sy,611,os⟩
noncomputable def zH(w:b3)(os:b5):kc:=⟨t9 w.params,188,{},gh [],Sy,635,os⟩
noncomputable def DL(w:b3)(os:b5):kc:=⟨t10 w.params,216,{},gh [],Sy,677,os⟩
noncomputable def DA(w:b3)(os:b5):kc:=⟨t11 w.params,244,{},gh [],Sy,721,os⟩
noncomputable def DO(w:b3)(os:b5):kc:=⟨t12 w.params,293,{},gh [],Sy,797,os⟩
noncomputable def D7(w:b3)(os:b5):kc:=⟨t13 w.params,377,{},gh [],Sy,910,os⟩
noncomputable def DK(w:b3)(os:b5):kc:=⟨t14 w.params,447,{},gh [],Sy,1011,os⟩
noncomputable def DJ(w:b3)(os:b5):kc:=⟨t15 w.params,531,{},gh [],Sy,1121,os⟩
noncomputable def DB(w:b3)(os:b5):kc:=⟨t16 w.params,571,{},gh [],Sy,1178,os⟩
noncomputable def D8(w:b3)(os:b5):kc:=⟨t17 w.params,691,{},gh [],Sy,1329,os⟩
noncomputable def D6(w:b3)(os:b5):kc:=⟨t18 w.params,761,{},gh [],Sy,1414,os⟩
noncomputable def DF(w:b3)(os:b5):kc:=⟨t19 w.params,844,{},gh [],Sy,1516,os⟩
noncomputable def DN(w:b3)(os:b5):kc:=⟨t20 w.params,925,{},gh [],Sy,1631,os⟩
noncomputable def YT(w:b3)(os:b5):kc:=⟨t21 w.params,977,{},gh [],Sy,1717,os⟩
theorem AcJ(w:b3):(fun os:b5=>PySem.W.Fast.tw15667345088766844465 PySem.W.Fast.tw14364793385576792824 P0 w 11 Z0 12 (S0 w os) (topStub P0))=fun os=>some (SA w os,⟨PySem.W.Fast.tw11892475500146522536 PySem.W.Fast.tw14364793385576792824 cB,cB,q0,B0⟩):=by kernel_rfl
theorem rJ(w:b3):(fun os:b5=>PySem.W.Fast.tw14374325043358763698 PySem.W.Fast.tw14364793385576792824 P0 w 11 Z0 1 1 (SA w os) (blockOf bB Z2 cB q0 B0))=fun os=>some (.next,(zL w os).abs,cB,q0):=by kernel_rfl
noncomputable abbrev rP:List Stmt:=(bB.drop 0).take 39
theorem zJ(w:b3):(fun os:b5=>PySem.W.Fast.tw10110043849684766642 PySem.W.Fast.tw14364793385576792824 P0 w 11 Z0 1 397 (zL w os) (ck rP Z2 cB ⟨0,0,0,0⟩ B0))=fun os=>some (.next,lS w os,cB,⟨41,0,41,8⟩):=by kernel_rfl
noncomputable abbrev FQ:List Stmt:=(bB.drop 39).take 13
theorem Ik(w:b3):(fun os:b5=>PySem.W.Fast.tw10110043849684766642 PySem.W.Fast.tw14364793385576792824 P0 (w.withFollow "special-get-raises" false) 11 Z0 1 335 (lS (w.withFollow "special-get-raises" false) os) (ck FQ Z2 cB ⟨41,0,41,8⟩ B0))=fun os=>some (.next,DQ (w.withFollow "special-get-raises" false) os,cB,⟨54,0,54,5⟩):=by kernel_rfl
theorem FN(w:b3):(fun os:b5=>PySem.W.Fast.tw10110043849684766642 PySem.W.Fast.tw14364793385576792824 P0 (w.withFollow "special-get-raises" true) 11 Z0 1 335 (lS (w.withFollow "special-get-raises" true) os) (ck FQ Z2 cB ⟨41,0,41,8⟩ B0))=fun os=>some (.next,DQ (w.withFollow "special-get-raises" true) os,cB,⟨54,0,54,5⟩):=by kernel_rfl
theorem zK(w:b3):(fun os:b5=>PySem.W.Fast.tw10110043849684766642 PySem.W.Fast.tw14364793385576792824 P0 w 11 Z0 1 335 (lS w os) (ck FQ Z2 cB ⟨41,0,41,8⟩ B0))=fun os=>some (.next,DQ w os,cB,⟨54,0,54,5⟩):=byRow2 "special-get-raises" (P:=fun w=>(fun os:b5=>PySem.W.Fast.tw10110043849684766642 PySem.W.Fast.tw14364793385576792824 P0 w 11 Z0 1 335 (lS w os) (ck FQ Z2 cB ⟨41,0,41,8⟩ B0))=fun os=>some (.next,DQ w os,cB,⟨54,0,54,5⟩)) Ik FN w
noncomputable abbrev FO:List Stmt:=(bB.drop 52).take 2
theorem Ii(w:b3):(fun os:b5=>PySem.W.Fast.tw10110043849684766642 PySem.W.Fast.tw14364793385576792824 P0 (w.withFollow "special-get-raises" false) 11 Z0 1 172 (DQ (w.withFollow "special-get-raises" false) os) (ck FO Z2 cB ⟨54,0,54,5⟩ B0))=fun os=>some (.next,D5 (w.withFollow "special-get-raises" false) os,cB,⟨56,0,56,11⟩):=by kernel_rfl
theorem FU(w:b3):(fun os:b5=>PySem.W.Fast.tw10110043849684766642 PySem.W.Fast.tw14364793385576792824 P0 (w.withFollow "special-get-raises" true) 11 Z0 1 172 (DQ (w.withFollow "special-get-raises" true) os) (ck FO Z2 cB ⟨54,0,54,5⟩ B0))=fun os=>some (.next,D5 (w.withFollow "special-get-raises" true) os,cB,⟨56,0,56,11⟩):=by kernel_rfl
theorem zG(w:b3):(fun os:b5=>PySem.W.Fast.tw10110043849684766642 PySem.W.Fast.tw14364793385576792824 P0 w 11 Z0 1 172 (DQ w os) (ck FO Z2 cB ⟨54,0,54,5⟩ B0))=fun os=>some (.next,D5 w os,cB,⟨56,0,56,11⟩):=byRow2 "special-get-raises" (P:=fun w=>(fun os:b5=>PySem.W.Fast.tw10110043849684766642 PySem.W.Fast.tw14364793385576792824 P0 w 11 Z0 1 172 (DQ w os) (ck FO Z2 cB ⟨54,0,54,5⟩ B0))=fun os=>some (.next,D5 w os,cB,⟨56,0,56,11⟩)) Ii FU w
noncomputable abbrev FP:List Stmt:=(bB.drop 54).take 1
theorem Ij(w:b3):(fun os:b5=>PySem.W.Fast.tw10110043849684766642 PySem.W.Fast.tw14364793385576792824 P0 (w.withFollow "special-get-raises" false) 11 Z0 1 763 (D5 (w.withFollow "special-get-raises" false) os) (ck FP Z2 cB ⟨56,0,56,11⟩ B0))=fun os=>some (.next,lR (w.withFollow "special-get-raises" false) os,cB,⟨57,0,57,5⟩):=by kernel_rfl
theorem FT(w:b3):(fun os:b5=>PySem.W.Fast.tw10110043849684766642 PySem.W.Fast.tw14364793385576792824 P0 (w.withFollow "special-get-raises" true) 11 Z0 1 763 (D5 (w.withFollow "special-get-raises" true) os) (ck FP Z2 cB ⟨56,0,56,11⟩ B0))=fun os=>some (.next,lR (w.withFollow "special-get-raises" true) os,cB,⟨57,0,57,5⟩):=by kernel_rfl
theorem zD(w:b3):(fun os:b5=>PySem.W.Fast.tw10110043849684766642 PySem.W.Fast.tw14364793385576792824 P0 w 11 Z0 1 763 (D5 w os) (ck FP Z2 cB ⟨56,0,56,11⟩ B0))=fun os=>some (.next,lR w os,cB,⟨57,0,57,5⟩):=byRow2 "special-get-raises" (P:=fun w=>(fun os:b5=>PySem.W.Fast.tw10110043849684766642 PySem.W.Fast.tw14364793385576792824 P0 w 11 Z0 1 763 (D5 w os) (ck FP Z2 cB ⟨56,0,56,11⟩ B0))=fun os=>some (.next,lR w os,cB,⟨57,0,57,5⟩)) Ij FT w
noncomputable abbrev rU:List Stmt:=(bB.drop 55).take 6
theorem zE(w:b3):(fun os:b5=>PySem.W.Fast.tw10110043849684766642 PySem.W.Fast.tw14364793385576792824 P0 w 11 Z0 1 289 (lR w os) (ck rU Z2 cB ⟨57,0,57,5⟩ B0))=fun os=>some (.next,yZ w os,cB,⟨76,0,76,8⟩):=by kernel_rfl
noncomputable abbrev rN:List Stmt:=(bB.drop 61).take 1
theorem zM(w:b3):(fun os:b5=>PySem.W.Fast.tw10110043849684766642 PySem.W.Fast.tw14364793385576792824 P0 w 11 Z0 1 229 (yZ w os) (ck rN Z2 cB ⟨76,0,76,8⟩ B0))=fun os=>some (.next,zN w os,cB,⟨77,0,81,22⟩):=by kernel_rfl
noncomputable abbrev rK:List Stmt:=(bB.drop 62).take 1
theorem yY(w:b3):(fun os:b5=>PySem.W.Fast.tw10110043849684766642 PySem.W.Fast.tw14364793385576792824 P0 w 11 Z0 1 247 (zN w os) (ck rK Z2 cB ⟨77,0,81,22⟩ B0))=fun os=>some (.next,zF w os,cB,⟨82,0,86,20⟩):=by kernel_rfl
noncomputable abbrev rV:List Stmt:=(bB.drop 63).take 1
theorem zA(w:b3):(fun os:b5=>PySem.W.Fast.tw10110043849684766642 PySem.W.Fast.tw14364793385576792824 P0 w 11 Z0 1 247 (zF w os) (ck rV Z2 cB ⟨82,0,86,20⟩ B0))=fun os=>some (.next,zI w os,cB,⟨87,0,91,20⟩):=by kernel_rfl
noncomputable abbrev rG:List Stmt:=(bB.drop 64).take 5
theorem zC(w:b3):(fun os:b5=>PySem.W.Fast.tw10110043849684766642 PySem.W.Fast.tw14364793385576792824 P0 w 11 Z0 1 250 (zI w os) (ck rG Z2 cB ⟨87,0,91,20⟩ B0))=fun os=>some (.next,zH w os,cB,⟨97,0,97,8⟩):=by kernel_rfl
noncomputable abbrev rQ:List Stmt:=(bB.drop 69).take 1
theorem zB(w:b3):(fun os:b5=>PySem.W.Fast.tw10110043849684766642 PySem.W.Fast.tw14364793385576792824 P0 w 11 Z0 1 260 (zH w os) (ck rQ Z2 cB ⟨97,0,97,8⟩ B0))=fun os=>some (.next,DL w os,cB,⟨98,0,107,16⟩):=by kernel_rfl
noncomputable abbrev D9:List Stmt:=(bB.drop 70).take 1
theorem rO(w:b3):(fun os:b5=>PySem.W.Fast.tw10110043849684766642 PySem.W.Fast.tw14364793385576792824 P0 w 11 Z0 1 262 (DL w os) (ck D9 Z2 cB ⟨98,0,107,16⟩ B0))=fun os=>some (.next,DA w os,cB,⟨108,0,118,16⟩):=by kernel_rfl
noncomputable abbrev DE:List Stmt:=(bB.drop 71).take 8
theorem rD(w:b3):(fun os:b5=>PySem.W.Fast.tw10110043849684766642 PySem.W.Fast.tw14364793385576792824 P0 w 11 Z0 1 388 (DA w os) (ck DE Z2 cB ⟨108,0,118,16⟩ B0))=fun os=>some (.next,DO w os,cB,⟨139,0,143,27⟩):=by kernel_rfl
noncomputable abbrev DI:List Stmt:=(bB.drop 79).take 12
theorem rH(w:b3):(fun os:b5=>PySem.W.Fast.tw10110043849684766642 PySem.W.Fast.tw14364793385576792824 P0 w 11 Z0 1 378 (DO w os) (ck DI Z2 cB ⟨139,0,143,27⟩ B0))=fun os=>some (.next,D7 w os,cB,⟨218,0,220,42⟩):=by kernel_rfl
noncomputable abbrev DP:List Stmt:=(bB.drop 91).take 18
theorem rT(w:b3):(fun os:b5=>PySem.W.Fast.tw10110043849684766642 PySem.W.Fast.tw14364793385576792824 P0 w 11 Z0 1 396 (D7 w os) (ck DP Z2 cB ⟨218,0,220,42⟩ B0))=fun os=>some (.next,DK w os,cB,⟨293,0,299,28⟩):=by kernel_rfl
noncomputable abbrev DU:List Stmt:=(bB.drop 109).take 12
theorem rM(w:b3):(fun os:b5=>PySem.W.Fast.tw10110043849684766642 PySem.W.Fast.tw14364793385576792824 P0 w 11 Z0 1 375 (DK w os) (ck DU Z2 cB ⟨293,0,299,28⟩ B0))=fun os=>some (.next,DJ w os,cB,⟨382,0,400,13⟩):=by kernel_rfl
noncomputable abbrev DS:List Stmt:=(bB.drop 121).take 7
theorem rI(w:b3):(fun os:b5=>PySem.W.Fast.tw10110043849684766642 PySem.W.Fast.tw14364793385576792824 P0 w 11 Z0 1 195 (DJ w os) (ck DS Z2 cB ⟨382,0,400,13⟩ B0))=fun os=>some (.next,DB w os,cB,⟨468,0,468,8⟩):=by kernel_rfl
noncomputable abbrev DV:List Stmt:=(bB.drop 128).take 1
theorem rS(w:b3):(fun os:b5=>PySem.W.Fast.tw10110043849684766642 PySem.W.Fast.tw14364793385576792824 P0 w 11 Z0 1 682 (DB w os) (ck DV Z2 cB ⟨468,0,468,8⟩ B0))=fun os=>some (.next,D8 w os,cB,⟨469,0,554,46⟩):=by kernel_rfl
noncomputable abbrev DT:List Stmt:=(bB.drop 129).take 1
theorem rF(w:b3):(fun os:b5=>PySem.W.Fast.tw10110043849684766642 PySem.W.Fast.tw14364793385576792824 P0 w 11 Z0 1 447 (D8 w os) (ck DT Z2 cB ⟨469,0,554,46⟩ B0))=fun os=>some (.next,D6 w os,cB,⟨555,0,589,16⟩):=by kernel_rfl
noncomputable abbrev DG:List Stmt:=(bB.drop 130).take 13
theorem rR(w:b3):(fun os:b5=>PySem.W.Fast.tw10110043849684766642 PySem.W.Fast.tw14364793385576792824 P0 w 11 Z0 1 373 (D6 w os) (ck DG Z2 cB ⟨555,0,589,16⟩ B0))=fun os=>some (.next,DF w os,cB,⟨657,0,659,71⟩):=by kernel_rfl
noncomputable abbrev DH:List Stmt:=(bB.drop 143).take 13
theorem rL(w:b3):(fun os:b5=>PySem.W.Fast.tw10110043849684766642 PySem.W.Fast.tw14364793385576792824 P0 w 11 Z0 1 392 (DF w os) (ck DH Z2 cB ⟨657,0,659,71⟩ B0))=fun os=>some (.next,DN w os,cB,⟨760,0,767,70⟩):=by kernel_rfl
noncomputable abbrev DM:List Stmt:=(bB.drop 156).take 8
theorem rE(w:b3):(fun os:b5=>PySem.W.Fast.tw10110043849684766642 PySem.W.Fast.tw14364793385576792824 P0 w 11 Z0 1 259 (DN w os) (ck DM Z2 cB ⟨760,0,767,70⟩ B0))=fun os=>some (.next,YT w os,cB,⟨856,0,887,81⟩):=by kernel_rfl
theorem AcK(w:b3):(fun os:b5=>PySem.W.Fast.tw14082659384304107361 PySem.W.Fast.tw14364793385576792824 P0 w 11 Z0 2 (YT w os).abs ⟨doneF .next,cB,⟨856,0,887,81⟩,B0⟩)=fun os=>some (YT w os).abs:=by kernel_rfl
theorem pre(w:b3)(os:b5):topGo bu P0 w 11 Z0 12 (S0 w os) (topStub P0)=some (SA w os,⟨denote bu cB,cB,q0,B0⟩):=by
 rw[PySem.W.Fast.te15667345088766844465,PySem.W.Fast.te14364793385576792824,PySem.W.Fast.te11892475500146522536];exact congrFun (AcJ w) os
theorem block(w:b3)(os:b5):segRun bu P0 w 11 Z0 1 1 (SA w os) (blockOf bB Z2 cB q0 B0)=some (.next,(zL w os).abs,cB,q0):=by
 rw[PySem.W.Fast.te14374325043358763698,PySem.W.Fast.te14364793385576792824];exact congrFun (rJ w) os
theorem fin(w:b3)(os:b5):lu bu P0 w 11 Z0 2 (YT w os).abs ⟨doneF .next,cB,⟨856,0,887,81⟩,B0⟩=some (YT w os).abs:=by
 rw[PySem.W.Fast.te14082659384304107361,PySem.W.Fast.te14364793385576792824];exact congrFun (AcK w) os
noncomputable abbrev R21:List Stmt:=[]
theorem c21(w:b3)(os:b5):lu bu P0 w 11 Z0 2 (YT w os).abs (nt R21 Z2 cB ⟨856,0,887,81⟩ B0)=some (YT w os).abs:=piece_nil (fin w os)
theorem zV(w:b3)(os:b5):lq bu P0 w 11 Z0 1 259 (DN w os) (ck DM Z2 cB ⟨760,0,767,70⟩ B0)=some (.next,YT w os,cB,⟨856,0,887,81⟩):=by
 rw[PySem.W.Fast.te10110043849684766642,PySem.W.Fast.te14364793385576792824];exact congrFun (rE w) os
noncomputable abbrev R20:List Stmt:=DM++R21
theorem c20(w:b3)(os:b5):lu bu P0 w 11 Z0 261 (DN w os).abs (nt R20 Z2 cB ⟨760,0,767,70⟩ B0)=some (YT w os).abs:=j3 (n:=259) (N:=2) (j5 (zV w os)) (c21 w os)
theorem zQ(w:b3)(os:b5):lq bu P0 w 11 Z0 1 392 (DF w os) (ck DH Z2 cB ⟨657,0,659,71⟩ B0)=some (.next,DN w os,cB,⟨760,0,767,70⟩):=by
 rw[PySem.W.Fast.te10110043849684766642,PySem.W.Fast.te14364793385576792824];exact congrFun (rL w) os
noncomputable abbrev R19:List Stmt:=DH++R20
theorem c19(w:b3)(os:b5):lu bu P0 w 11 Z0 653 (DF w os).abs (nt R19 Z2 cB ⟨657,0,659,71⟩ B0)=some (YT w os).abs:=j3 (n:=392) (N:=261) (j5 (zQ w os)) (c20 w os)
theorem zT(w:b3)(os:b5):lq bu P0 w 11 Z0 1 373 (D6 w os) (ck DG Z2 cB ⟨555,0,589,16⟩ B0)=some (.next,DF w os,cB,⟨657,0,659,71⟩):=by
 rw[PySem.W.Fast.te10110043849684766642,PySem.W.Fast.te14364793385576792824];exact congrFun (rR w) os
noncomputable abbrev R18:List Stmt:=DG++R19
theorem c18(w:b3)(os:b5):lu bu P0 w 11 Z0 1026 (D6 w os).abs (nt R18 Z2 cB ⟨555,0,589,16⟩ B0)=some (YT w os).abs:=j3 (n:=373) (N:=653) (j5 (zT w os)) (c19 w os)
theorem zS(w:b3)(os:b5):lq bu P0 w 11 Z0 1 447 (D8 w os) (ck DT Z2 cB ⟨469,0,554,46⟩ B0)=some (.next,D6 w os,cB,⟨555,0,589,16⟩):=by
 rw[PySem.W.Fast.te10110043849684766642,PySem.W.Fast.te14364793385576792824];exact congrFun (rF w) os
noncomputable abbrev R17:List Stmt:=DT++R18
theorem c17(w:b3)(os:b5):lu bu P0 w 11 Z0 1473 (D8 w os).abs (nt R17 Z2 cB ⟨469,0,554,46⟩ B0)=some (YT w os).abs:=j3 (n:=447) (N:=1026) (j5 (zS w os)) (c18 w os)
theorem zW(w:b3)(os:b5):lq bu P0 w 11 Z0 1 682 (DB w os) (ck DV Z2 cB ⟨468,0,468,8⟩ B0)=some (.next,D8 w os,cB,⟨469,0,554,46⟩):=by
 rw[PySem.W.Fast.te10110043849684766642,PySem.W.Fast.te14364793385576792824];exact congrFun (rS w) os
noncomputable abbrev R16:List Stmt:=DV++R17
theorem c16(w:b3)(os:b5):lu bu P0 w 11 Z0 2155 (DB w os).abs (nt R16 Z2 cB ⟨468,0,468,8⟩ B0)=some (YT w os).abs:=j3 (n:=682) (N:=1473) (j5 (zW w os)) (c17 w os)
theorem zP(w:b3)(os:b5):lq bu P0 w 11 Z0 1 195 (DJ w os) (ck DS Z2 cB ⟨382,0,400,13⟩ B0)=some (.next,DB w os,cB,⟨468,0,468,8⟩):=by
 rw[PySem.W.Fast.te10110043849684766642,PySem.W.Fast.te14364793385576792824];exact congrFun (rI w) os
noncomputable abbrev R15:List Stmt:=DS++R16
theorem c15(w:b3)(os:b5):lu bu P0 w 11 Z0 2350 (DJ w os).abs (nt R15 Z2 cB ⟨382,0,400,13⟩ B0)=some (YT w os).abs:=j3 (n:=195) (N:=2155) (j5 (zP w os)) (c16 w os)
theorem zU(w:b3)(os:b5):lq bu P0 w 11 Z0 1 375 (DK w os) (ck DU Z2 cB ⟨293,0,299,28⟩ B0)=some (.next,DJ w os,cB,⟨382,0,400,13⟩):=by
 rw[PySem.W.Fast.te10110043849684766642,PySem.W.Fast.te14364793385576792824];exact congrFun (rM w) os
noncomputable abbrev R14:List Stmt:=DU++R15
theorem c14(w:b3)(os:b5):lu bu P0 w 11 Z0 2725 (DK w os).abs (nt R14 Z2 cB ⟨293,0,299,28⟩ B0)=some (YT w os).abs:=j3 (n:=375) (N:=2350) (j5 (zU w os)) (c15 w os)
theorem zY(w:b3)(os:b5):lq bu P0 w 11 Z0 1 396 (D7 w os) (ck DP Z2 cB ⟨218,0,220,42⟩ B0)=some (.next,DK w os,cB,⟨293,0,299,28⟩):=by
 rw[PySem.W.Fast.te10110043849684766642,PySem.W.Fast.te14364793385576792824];exact congrFun (rT w) os
noncomputable abbrev R13:List Stmt:=DP++R14
theorem c13(w:b3)(os:b5):lu bu P0 w 11 Z0 3121 (D7 w os).abs (nt R13 Z2 cB ⟨218,0,220,42⟩ B0)=some (YT w os).abs:=j3 (n:=396) (N:=2725) (j5 (zY w os)) (c14 w os)
theorem zZ(w:b3)(os:b5):lq bu P0 w 11 Z0 1 378 (DO w os) (ck DI Z2 cB ⟨139,0,143,27⟩ B0)=some (.next,D7 w os,cB,⟨218,0,220,42⟩):=by
 rw[PySem.W.Fast.te10110043849684766642,PySem.W.Fast.te14364793385576792824];exact congrFun (rH w) os
noncomputable abbrev R12:List Stmt:=DI++R13
theorem c12(w:b3)(os:b5):lu bu P0 w 11 Z0 3499 (DO w os).abs (nt R12 Z2 cB ⟨139,0,143,27⟩ B0)=some (YT w os).abs:=j3 (n:=378) (N:=3121) (j5 (zZ w os)) (c13 w os)
theorem zR(w:b3)(os:b5):lq bu P0 w 11 Z0 1 388 (DA w os) (ck DE Z2 cB ⟨108,0,118,16⟩ B0)=some (.next,DO w os,cB,⟨139,0,143,27⟩):=by
 rw[PySem.W.Fast.te10110043849684766642,PySem.W.Fast.te14364793385576792824];exact congrFun (rD w) os
noncomputable abbrev R11:List Stmt:=DE++R12
theorem c11(w:b3)(os:b5):lu bu P0 w 11 Z0 3887 (DA w os).abs (nt R11 Z2 cB ⟨108,0,118,16⟩ B0)=some (YT w os).abs:=j3 (n:=388) (N:=3499) (j5 (zR w os)) (c12 w os)
theorem zO(w:b3)(os:b5):lq bu P0 w 11 Z0 1 262 (DL w os) (ck D9 Z2 cB ⟨98,0,107,16⟩ B0)=some (.next,DA w os,cB,⟨108,0,118,16⟩):=by
 rw[PySem.W.Fast.te10110043849684766642,PySem.W.Fast.te14364793385576792824];exact congrFun (rO w) os
noncomputable abbrev R10:List Stmt:=D9++R11
theorem c10(w:b3)(os:b5):lu bu P0 w 11 Z0 4149 (DL w os).abs (nt R10 Z2 cB ⟨98,0,107,16⟩ B0)=some (YT w os).abs:=j3 (n:=262) (N:=3887) (j5 (zO w os)) (c11 w os)
theorem AcQ(w:b3)(os:b5):lq bu P0 w 11 Z0 1 260 (zH w os) (ck rQ Z2 cB ⟨97,0,97,8⟩ B0)=some (.next,DL w os,cB,⟨98,0,107,16⟩):=by
 rw[PySem.W.Fast.te10110043849684766642,PySem.W.Fast.te14364793385576792824];exact congrFun (zB w) os
noncomputable abbrev R9:List Stmt:=rQ++R10
theorem c9(w:b3)(os:b5):lu bu P0 w 11 Z0 4409 (zH w os).abs (nt R9 Z2 cB ⟨97,0,97,8⟩ B0)=some (YT w os).abs:=j3 (n:=260) (N:=4149) (j5 (AcQ w os)) (c10 w os)
theorem AcN(w:b3)(os:b5):lq bu P0 w 11 Z0 1 250 (zI w os) (ck rG Z2 cB ⟨87,0,91,20⟩ B0)=some (.next,zH w os,cB,⟨97,0,97,8⟩):=by
 rw[PySem.W.Fast.te10110043849684766642,PySem.W.Fast.te14364793385576792824];exact congrFun (zC w) os
noncomputable abbrev R8:List Stmt:=rG++R9
theorem c8(w:b3)(os:b5):lu bu P0 w 11 Z0 4659 (zI w os).abs (nt R8 Z2 cB ⟨87,0,91,20⟩ B0)=some (YT w os).abs:=j3 (n:=250) (N:=4409) (j5 (AcN w os)) (c9 w os)
theorem AcO(w:b3)(os:b5):lq bu P0 w 11 Z0 1 247 (zF w os) (ck rV Z2 cB ⟨82,0,86,20⟩ B0)=some (.next,zI w os,cB,⟨87,0,91,20⟩):=by
 rw[PySem.W.Fast.te10110043849684766642,PySem.W.Fast.te14364793385576792824];exact congrFun (zA w) os
noncomputable abbrev R7:List Stmt:=rV++R8
theorem c7(w:b3)(os:b5):lu bu P0 w 11 Z0 4906 (zF w os).abs (nt R7 Z2 cB ⟨82,0,86,20⟩ B0)=some (YT w os).abs:=j3 (n:=247) (N:=4659) (j5 (AcO w os)) (c8 w os)
theorem AcS(w:b3)(os:b5):lq bu P0 w 11 Z0 1 247 (zN w os) (ck rK Z2 cB ⟨77,0,81,22⟩ B0)=some (.next,zF w os,cB,⟨82,0,86,20⟩):=by
 rw[PySem.W.Fast.te10110043849684766642,PySem.W.Fast.te14364793385576792824];exact congrFun (yY w) os
noncomputable abbrev R6:List Stmt:=rK++R7
theorem c6(w:b3)(os:b5):lu bu P0 w 11 Z0 5153 (zN w os).abs (nt R6 Z2 cB ⟨77,0,81,22⟩ B0)=some (YT w os).abs:=j3 (n:=247) (N:=4906) (j5 (AcS w os)) (c7 w os)
theorem AcP(w:b3)(os:b5):lq bu P0 w 11 Z0 1 229 (yZ w os) (ck rN Z2 cB ⟨76,0,76,8⟩ B0)=some (.next,zN w os,cB,⟨77,0,81,22⟩):=by
 rw[PySem.W.Fast.te10110043849684766642,PySem.W.Fast.te14364793385576792824];exact congrFun (zM w) os
noncomputable abbrev R5:List Stmt:=rN++R6
theorem c5(w:b3)(os:b5):lu bu P0 w 11 Z0 5382 (yZ w os).abs (nt R5 Z2 cB ⟨76,0,76,8⟩ B0)=some (YT w os).abs:=j3 (n:=229) (N:=5153) (j5 (AcP w os)) (c6 w os)
theorem AcM(w:b3)(os:b5):lq bu P0 w 11 Z0 1 289 (lR w os) (ck rU Z2 cB ⟨57,0,57,5⟩ B0)=some (.next,yZ w os,cB,⟨76,0,76,8⟩):=by
 rw[PySem.W.Fast.te10110043849684766642,PySem.W.Fast.te14364793385576792824];exact congrFun (zE w) os
noncomputable abbrev R4:List Stmt:=rU++R5
theorem c4(w:b3)(os:b5):lu bu P0 w 11 Z0 5671 (lR w os).abs (nt R4 Z2 cB ⟨57,0,57,5⟩ B0)=some (YT w os).abs:=j3 (n:=289) (N:=5382) (j5 (AcM w os)) (c5 w os)
theorem AcR(w:b3)(os:b5):lq bu P0 w 11 Z0 1 763 (D5 w os) (ck FP Z2 cB ⟨56,0,56,11⟩ B0)=some (.next,lR w os,cB,⟨57,0,57,5⟩):=by
 rw[PySem.W.Fast.te10110043849684766642,PySem.W.Fast.te14364793385576792824];exact congrFun (zD w) os
noncomputable abbrev R3:List Stmt:=FP++R4
theorem c3(w:b3)(os:b5):lu bu P0 w 11 Z0 6434 (D5 w os).abs (nt R3 Z2 cB ⟨56,0,56,11⟩ B0)=some (YT w os).abs:=j3 (n:=763) (N:=5671) (j5 (AcR w os)) (c4 w os)
theorem AcL(w:b3)(os:b5):lq bu P0 w 11 Z0 1 172 (DQ w os) (ck FO Z2 cB ⟨54,0,54,5⟩ B0)=some (.next,D5 w os,cB,⟨56,0,56,11⟩):=by
 rw[PySem.W.Fast.te10110043849684766642,PySem.W.Fast.te14364793385576792824];exact congrFun (zG w) os
noncomputable abbrev R2:List Stmt:=FO++R3
theorem c2(w:b3)(os:b5):lu bu P0 w 11 Z0 6606 (DQ w os).abs (nt R2 Z2 cB ⟨54,0,54,5⟩ B0)=some (YT w os).abs:=j3 (n:=172) (N:=6434) (j5 (AcL w os)) (c3 w os)
theorem AcV(w:b3)(os:b5):lq bu P0 w 11 Z0 1 335 (lS w os) (ck FQ Z2 cB ⟨41,0,41,8⟩ B0)=some (.next,DQ w os,cB,⟨54,0,54,5⟩):=by
 rw[PySem.W.Fast.te10110043849684766642,PySem.W.Fast.te14364793385576792824];exact congrFun (zK w) os
noncomputable abbrev R1:List Stmt:=FQ++R2
theorem c1(w:b3)(os:b5):lu bu P0 w 11 Z0 6941 (lS w os).abs (nt R1 Z2 cB ⟨41,0,41,8⟩ B0)=some (YT w os).abs:=j3 (n:=335) (N:=6606) (j5 (AcV w os)) (c2 w os)
theorem AcU(w:b3)(os:b5):lq bu P0 w 11 Z0 1 397 (zL w os) (ck rP Z2 cB ⟨0,0,0,0⟩ B0)=some (.next,lS w os,cB,⟨41,0,41,8⟩):=by
 rw[PySem.W.Fast.te10110043849684766642,PySem.W.Fast.te14364793385576792824];exact congrFun (zJ w) os
noncomputable abbrev R0:List Stmt:=rP++R1
theorem c0(w:b3)(os:b5):lu bu P0 w 11 Z0 7338 (zL w os).abs (nt R0 Z2 cB ⟨0,0,0,0⟩ B0)=some (YT w os).abs:=j3 (n:=397) (N:=6941) (j5 (AcU w os)) (c1 w os)
theorem lT:bB=R0:=by kernel_rfl
theorem rX(w:b3)(os:b5):lu bu P0 w 11 Z0 7339 (SA w os) ⟨denote bu (.body bB Z2),cB,q0,B0⟩=some (YT w os).abs:=
 piece_block (n:=1) (N:=7338) (block w os) (by rw[lT];exact lT▸c0 w os)
theorem AcT(w:b3)(os:b5):lu bu P0 w 11 Z0 7351 (S0 w os) (topStub P0)=some (YT w os).abs:=go_top (n:=12) (N:=7339) (pre w os) (rX w os)
noncomputable abbrev HF(P:b7):Heap:=absHeap (t21 P) 977 {}
theorem abs_eq(w:b3)(os:b5):(YT w os).abs=⟨HF w.params,gh [],Sy,1717,os⟩:=by kernel_rfl
theorem rW(w:b3)(os:b5):lu bu P0 w 11 Z0 7351 ⟨uo w.params,gh [],boot_drawn,boot_toks,os⟩ (topStub P0)=some ⟨HF w.params,gh [],Sy,1717,os⟩:=(AcT w os).trans (congrArg some (abs_eq w os))
theorem Il:opening P0=plainProg P0.main.scope.names:=by kernel_rfl
theorem zX:∀w:b3,(fencedOpening bu P0 w 14756).map (fun s=>(s.heap,s.gens,s.drawn,s.toks))=some (uo w.params,gh [],boot_drawn,boot_toks):=
 boot_open (p:=P0) (N:=14756) Il (by decide) (fun s=>by kernel_rfl)
theorem Aaa(w:b3):((uo w.params).isNs mainGlobals&&(gh []:Array yp).size==0,(uo w.params).objs.size,(uo w.params).nsMap mainGlobals "__annotations__")=(true,11,Z0):=by kernel_rfl
noncomputable abbrev Q0:k9:={P0 with main:={P0.main with body:=bB.drop 163}}
noncomputable def Qy:List Str:=P0.boundNames.filter fun n=>n !=("law":Str)
theorem Aac(w:b3):(staticsOk (zg P0.main.body) (uo w.params) (HF w.params)&&namesBound P0 (HF w.params)&&gensDone ⟨HF w.params,gh [],Sy,1717,{}⟩&&laidKept (uo w.params) (HF w.params))=true:=by kernel_rfl
theorem Aab(w:b3):(fun os=>openSeen Q0 Qy (zg P0.main.body) (recOk []) true ⟨HF w.params,gh [],Sy,1717,os⟩)=fun _=>openGood Q0 Qy:=by kernel_rfl
abbrev Sz(w:b3)(h:Heap):Prop:=∀b o,(HF w.params).get? b=some o→h.get? b=some o
theorem Aad:LeftO PySem.Challenge.pw_nm0161_01 Q0 Qy (recOk []) (fun s=>s.heap) (fun w=>HF w.params) 14756:=by
 rw[D4]
 refine LeftO.of_pieces (zX) (Aaa) rW (by decide) fun w=> ?_
 funext os
 exact Prod.ext (Aac w) (Prod.ext (congrFun (Aab w) os) rfl)
noncomputable abbrev UD:DefRec:=⟨"law",(fst 163).1,(fst 163).2.1,(fst 163).2.2,⟨856,0,887,81⟩⟩
theorem Aae:defOf Q0 PySem.Challenge.rw_nm0161_01.row.name=some (UD,[]):=by kernel_rfl
theorem hp_:PySem.Challenge.rw_nm0161_01.row.prog.theDef PySem.Challenge.rw_nm0161_01.row.name=some (UD.params,UD.body,UD.scope):=by
 show PySem.Challenge.pw_nm0161_01.theDef _=_
 rw[D4];kernel_rfl
theorem ok_:(chainsOk Q0&&opensWell PySem.Challenge.rw_nm0161_01.row.prog&&(frees PySem.Challenge.rw_nm0161_01.row.toRowW&&PySem.Challenge.rw_nm0161_01.row.within.isEmpty))=true:=by
 show(chainsOk Q0&&opensWell PySem.Challenge.pw_nm0161_01&&_)=true
 rw[D4];kernel_rfl
theorem rY(P:b7):(HF P).nsMap mainGlobals "law"=some (.ref 976):=by kernel_rfl
theorem S1(P:b7):(HF P).isNs mainGlobals=true:=by kernel_rfl
theorem cX{h:Heap}{a:Addr}{m m':Str→Option aa}(x:h.Ns a m)(y:h.Ns a m'):m=m':=by
 obtain⟨o,es,ep,ho,hd,_,hf⟩:=x
 obtain⟨o',es',ep',ho',hd',_,hf'⟩:=y
 rw[ho] at ho'
 cases ho'
 rw[hd] at hd'
 cases hd'
 funext n
 rw[← hf,← hf']
noncomputable def KF(P:b7):Frag:=(2,⟨.none,none,.dict #[⟨af P s99,.str s99 555,.int 134 0⟩,⟨af P cW,.str cW 556,.int 1 0⟩] 2,#[]⟩)::(3,(D3 P (s3,165,.str YH 1447) 165 166))::(11,tz)::(12,(F3 90))::(13,(cg [.str s0 182,.str s0 183,.str s1 184,.int 1 0,.int 0 0,.int 0 0,.int 0 0,.int 0 0,.ref 11,.bool false,.int 181 0,.ref 12,.none,.none,.none,.none,.int 185 0,.int 1 0,.str s1 186]))::(14,⟨T6,none,.plain,#[some (.ref 13),some (.ref 3),some (.ref 3),none,some (.str "__main__" 164),none,some (.ref 0)]⟩)::g1 P (g2 P (g3 P (g4 P (g5 P (g6 P ⟨T5,none,.cls ⟨XY,[T2],[.ref 134,T2,T7,T8],133,XY,true,[],[.ref 154,.ref 173,.ref 185],false,none,false⟩,#[some (.ref 118),none,some (.str XY 530),some (.str XY 538),some (T9),some (.bool true)]⟩ (g7 P (g8 P (g9 P (xR P (g11 P (g12 P (g13 P (g14 P (g15 P (g16 P (g17 P (g18 P (g19 P (g20 P (g21 P []))))))))))))))))))))
noncomputable def KA:List Addr:=[2,3]++(fu 966).map (· +11)
theorem cY(P:b7):KA.map (t21 P).get=(KF P).map fun p=>some p.2:=by kernel_rfl
theorem HV(P:b7):KA=(KF P).map (·.1):=by kernel_rfl
theorem cZ(P:b7):(KF P).all (fun p=> !p.2.isFreed)=true:=by kernel_rfl
theorem Aaf:KA.all (fun a=>decide (a<977))=true:=by kernel_rfl
theorem LQ{f:Addr→Option Obj}:∀{K:Frag} {as:List Addr},as=K.map (·.1)→as.map f=K.map (fun p=>some p.2)→∀a o,K.lookup a=some o→f a=some o∧(a,o)∈K
 |[],_,_,_,a,o,h=>by cases h
 |(b,x)::r,as,e1,e2,a,o,h=>by
  subst e1
  simp only[jq,List.cons.injEq] at e2
  rw[gz] at h
  split at h
  ·rename_i q
   cases h
   rw[beq_iff_eq] at q
   subst q
   exact⟨e2.1,wo⟩
  ·obtain⟨h1,h2⟩:=LQ (K:=r) rfl e2.2 a o h
   exact⟨h1,nh _ h2⟩
theorem Aag(P:b7):(KF P).In (HF P):=fun a o h=>by
 obtain⟨h1,h2⟩:=LQ (HV P) (cY P) a o h
 have hlt:a<977:=by
  have:a∈KA:=by rw[HV P];exact List.mem_map_of_mem h2
  exact of_decide_eq_true (az.mp Aaf a this)
 have hf:o.isFreed=false:=by
  have:=az.mp (cZ P) _ h2
  simpa using this
 rw[Heap.get?_some_iff]
 exact⟨by show(absHeap _ _ _).objs[a]?=_;rw[absHeap_at,if_pos hlt,h1];rfl,hf⟩
theorem HW{w:b3}{h:Heap}(b:Sz w h):(KF w.params).In h:=(Aag w.params).keeps b
section
open Sem (wp)
noncomputable def Ve:List String:=["bytearray.__contains__","bytearray.__mod__","bytearray.__rmod__","_struct.pack_into.held","bytearray.find.held"]++oi
noncomputable def Xc:Code→Bool
 | .builtin id _=> !Ve.contains id
 |_=>true
def Clean(Γ:Ctx):Prop:=Xc Γ.code=true∧∀x∈Γ.below,Xc x.1=true
theorem Clean.enter{Γ:Ctx}(x:Clean Γ){c:Code}{h:Option aa}{p:Pos}(hc:Xc c=true):Clean (Γ.enter c h p):=
 ⟨hc,fun y hy=>by
  rcases ay.mp hy with rfl|hy
  ·exact x.1
  ·exact x.2 y hy⟩
theorem Clean.goto{Γ:Ctx}(x:Clean Γ){c:Code}(hc:Xc c=true):Clean (Γ.goto c):=⟨hc,x.2⟩
def Zh{α:Type}(M:o8)(A:bz)(t:Sem α)(Q:α→ai→Prop)(E:aa→ai→Prop)(s:ai):Prop:=
 ∀Γ p,Γ.In A→Clean Γ→wp M Γ t (fun a _ s'=>Q a s') (fun e _ s'=>E e s') p s
def ZU(M:o8)(A:bz)(c:Code)(R:ly→ai→Prop)(s:ai):Prop:=
 ∀Γ p,Γ.code=c→Γ.Below A→Clean Γ→wpCode M Γ R p s
section
variable{α β:Type}{M:o8}{A:bz}{E:aa→ai→Prop}{s:ai}{env:Env}
theorem up{t:Sem α}{Q:α→ai→Prop}(h:wpAny M A t Q E s):Zh M A t Q E s:=fun Γ p hΓ _=>h Γ p hΓ
theorem Zc{a:α}{Q:α→ai→Prop}(h:Q a s):Zh M A (pure a) Q E s:=up (bg h)
theorem Zi{t:Sem α}{Q Q':α→ai→Prop}{E':aa→ai→Prop}(h:Zh M A t Q E s)(hQ:∀a s,Q a s→Q' a s)(hE:∀e s,E e s→E' e s):Zh M A t Q' E' s:=
 fun Γ p hΓ hc=>ni M Γ t (fun a _ s=>hQ a s) (fun e _ s=>hE e s) p s (h Γ p hΓ hc)
theorem Zb{m:Sem α}{f:α→Sem β}{Q:β→ai→Prop}(h:Zh M A m (fun a s'=>Zh M A (f a) Q E s') E s):Zh M A (m>>=f) Q E s:=fun Γ p hΓ hc=>by
 rw[tu]
 exact ni M Γ m (fun a p' s' h'=>h' Γ p' hΓ hc) (fun _ _ _ h'=>h') p s (h Γ p hΓ hc)
theorem Ze{m:Sem α}{f:α→Sem β}{P:α→ai→Prop}{Q:β→ai→Prop}(h:Zh M A m P E s)(k:∀a s',P a s'→Zh M A (f a) Q E s'):Zh M A (m>>=f) Q E s:=
 Zb (Zi h k fun _ _ e=>e)
theorem Zd{vs:List aa}{m:Sem α}{Q:α→ai→Prop}(h:Zh M A m Q E s):Zh M A (holding vs m) Q E s:=fun Γ p hΓ hc=>by rw[Sem.wp_holding];exact h Γ p hΓ hc
theorem DW{vs:List aa}{m:Sem α}{Q:α→ai→Prop}(h:Zh M A m Q E s):Zh M A (m.keep vs) Q E s:=fun Γ p hΓ hc=>by rw[Sem.wp_keep];exact h Γ p hΓ hc
theorem Xh{vs:List aa}{m:Sem aa}{Q:aa→ai→Prop}(h:Zh M A m Q E s):Zh M A (operate vs m) Q E s:=fun Γ p hΓ hc=>by rw[Sem.wp_operate];exact h Γ p hΓ hc
theorem Xg{m:Sem α}{k:aa→Sem Unit}{Q:α→ai→Prop}(h:Zh M A m Q (fun e s'=>Zh M A (k e) (fun _ s''=>E e s'') E s') s):Zh M A (m.onRaise k) Q E s:=fun Γ p hΓ hc=>by
 rw[Sem.wp_onRaise]
 exact ni M Γ m (fun _ _ _ h'=>h') (fun e p' s' h'=>h' Γ p' hΓ hc) p s (h Γ p hΓ hc)
theorem Tn{m:Sem α}{k:aa→Sem α}{Q:α→ai→Prop}(h:Zh M A m Q (fun e s'=>Zh M A (k e) Q E s') s):Zh M A (tryCatch m k) Q E s:=fun Γ p hΓ hc=>by
 rw[Sem.wp_tryCatch']
 exact ni M Γ m (fun _ _ _ h'=>h') (fun e p' s' h'=>h' Γ p' hΓ hc) p s (h Γ p hΓ hc)
theorem Rn{m:Sem α}{Q:Except aa α→ai→Prop}(h:Zh M A m (fun a=>Q (.ok a)) (fun e=>Q (.error e)) s):Zh M A m.attempt Q E s:=fun Γ p hΓ hc=>by rw[Sem.wp_attempt];exact h Γ p hΓ hc
theorem Zp{pos:Pos}{f:Unit→Sem β}{Q:β→ai→Prop}(h:Zh M A (f ()) Q E s):Zh M A (standAt pos>>=f) Q E s:=Zb (up (qi h))
theorem VF{tag:String}{f:Unit→Sem β}{Q:β→ai→Prop}(h:Zh M A (f ()) Q E s):Zh M A (rule tag>>=f) Q E s:=Zb (up (wpAny_rule h))
theorem X3{t:Sem α}{a:α}{Q:α→ai→Prop}(e:t=pure a)(h:Q a s):Zh M A t Q E s:=by rw[e];exact Zc h
theorem Q5{c:Code}{R R':ly→ai→Prop}(h:ZU M A c R s)(hR:∀r s,R r s→R' r s):ZU M A c R' s:=fun Γ p hc hΓ hcl=>wpCode_mono hR (h Γ p hc hΓ hcl)
theorem HX{c:Code}{h:Option aa}{Q:Flow→ai→Prop}(hcl:Xc c=true)(hc:ZU M (A.mark h) c (fun r s'=>match r with| .ok f=>Q f s'| .error e=>E e s') s)(hnb:h≠some byPass):
  Zh M A (run c h) Q E s:=fun Γ p hΓ hx=>by rw[Sem.wp_run];exact hc _ p rfl (hΓ.enter c h p hnb) (hx.enter hcl)
theorem NN{c:Code}{Q:aa→ai→Prop}(hcl:Xc c=true)(hc:ZU M A c (fun r s'=>match r with| .ok (.ret v)=>Q v s'| .ok _=>False| .error e=>E e s') s):Zh M A (runValue c) Q E s:=
 fun Γ p hΓ hx=>by rw[Sem.wp_runValue];exact hc _ p rfl (hΓ.enter c none p (by intro x;cases x)) (hx.enter hcl)
theorem XD{f:aa}{pos:List aa}{kw:List (Str × aa)}{Q:aa→ai→Prop}(hc:ZU M A (.call f ⟨pos,kw⟩) (fun r s'=>match r with| .ok (.ret v)=>Q v s'| .ok _=>False| .error e=>E e s') s):
  Zh M A (call f pos kw) Q E s:=NN rfl hc
theorem Z3{c:Code}{R:ly→ai→Prop}
  (h:Zh M (A.under c) (M.den c) (fun fin s'=>match fin with| .done f=>R (.ok f) s'| .again c'=>c'.quiet=true∧Xc c'=true∧ZU M A c' R s') (fun e s'=>R (.error e) s') s):ZU M A c R s:=fun Γ p hc hΓ hx=>by
 rw[wpCode_iff_wp,hc]
 refine ni M Γ _ (fun fin p' s' h'=> ?_) (fun _ _ _ h'=>h') p s (h Γ p (hc▸hΓ.in) hx)
 cases fin with
 |done f=>exact h'
 |again c'=>exact⟨h'.1,h'.2.2 (Γ.goto c') p' rfl (hΓ.goto c') (hx.goto h'.2.1)⟩
theorem Vd{c:Code}{R:ly→ai→Prop}(hq:c.quiet=true)(hcl:Xc c=true)(I:Nat→ai→Prop)
  (turn:∀n s,I n s→Zh M (A.under c) (M.den c) (fun fin s'=>match fin with
    | .done f=>R (.ok f) s'
    | .again c'=>(c'=c∧∃m,m<n∧I m s')∨(c'.quiet=true∧Xc c'=true∧ZU M A c' R s')) (fun e s'=>R (.error e) s') s)
  (n:Nat) (h:I n s):ZU M A c R s:=by
 induction n using Nat.strongRecOn generalizing s with
 |ind n ih=>
  refine Z3 (Zi (turn n s h) (fun fin s' hf=> ?_) fun _ _ h'=>h')
  cases fin with
  |done f=>exact hf
  |again c'=>
   rcases hf with⟨rfl,m,hm,hI⟩|hf
   ·exact⟨hq,hcl,ih m hm hI⟩
   ·exact hf
theorem Q4{x pos}{Q:aa→ai→Prop}(h:Zh M A (loadName env x) Q E s)(hd:(x==("__debug__":Str))=false):Zh M A (eval (.Name x pos) env) Q E s:=by
 rw[eval_Name env x pos hd];exact Zp h
theorem FY{l op r pos}{Q:aa→ai→Prop}(h:Zh M A (eval l env) (fun a s₁=>Zh M A (eval r env) (fun b s₂=>Zh M A (wu op a b) Q E s₂) E s₁) E s):Zh M A (eval (.BinOp l op r pos) env) Q E s:=by
 rw[eval_BinOp]
 exact Ze h fun a s₁ h₁=>Ze (Zd h₁) fun b s₂ h₂=>Zp (Xh h₂)
theorem LW{op:UnaryOp}{x:Expr}{pos:Pos}{Q:aa→ai→Prop}(h:Zh M A (eval x env) (fun v s₁=>Zh M A (unaryOp op v) Q E s₁) E s):Zh M A (eval (.UnaryOp op x pos) env) Q E s:=by
 rw[arm_eval_UnaryOp]
 exact Ze h fun a s₁ h₁=>Zp (Zd h₁)
theorem Tj{l op r pos}{Q:aa→ai→Prop}(h:Zh M A (eval l env) (fun a s₁=>Zh M A (eval r env) (fun b s₂=>Zh M A (jl op a b) Q E s₂) E s₁) E s)
  (hm:uw op r=false):Zh M A (eval (.Compare l [op] [r] pos) env) Q E s:=by
 rw[eval_Compare1,yq hm]
 exact Ze h fun a s₁ h₁=>Ze (Zd h₁) fun b s₂ h₂=>Zp (Xh h₂)
theorem ZV{l op r pos whole}{Q:Bool→ai→Prop}(h:Zh M A (eval l env) (fun a s₁=>Zh M A (eval r env) (fun b s₂=>Zh M A (jl op a b) (fun c s₃=>Zh M A (truthy c) Q E s₃) E s₂) E s₁) E s)
  (hm:uw op r=false):Zh M A (isTrue (.Compare l [op] [r] pos) env whole) Q E s:=by
 rw[isTrue_Compare1,yq hm]
 exact Ze h fun a s₁ h₁=>Ze (Zd h₁) fun b s₂ h₂=>Zp (Ze (Xh h₂) fun c s₃ h₃=>Zd h₃)
theorem Q6{l op₁ op₂ ops r₁ r₂ rs pos}{Q:aa→ai→Prop}
  (h:Zh M A (eval l env) (fun a s₁=>Zh M A (compareChain pos a (op₁::op₂::ops) (eval r₁ env::eval r₂ env::evalEach rs env)) Q E s₁) E s)
  (hm:A0b (op₁::op₂::ops) (r₁::r₂::rs)=false):Zh M A (eval (.Compare l (op₁::op₂::ops) (r₁::r₂::rs) pos) env) Q E s:=by
 have e:eval (.Compare l (op₁::op₂::ops) (r₁::r₂::rs) pos) env=(eval l env>>=fun a=>compareChain pos a (op₁::op₂::ops) (markedEach (op₁::op₂::ops) (r₁::r₂::rs) (evalEach (r₁::r₂::rs) env))):=rfl
 rw[e,markedEach_of_false _ _ _ hm]
 exact Zb h
theorem Oo{l op₁ op₂ ops r₁ r₂ rs pos whole}{Q:Bool→ai→Prop}
  (h:Zh M A (eval l env) (fun a s₁=>Zh M A (testChain pos a (op₁::op₂::ops) (eval r₁ env::eval r₂ env::evalEach rs env)) Q E s₁) E s)
  (hm:A0b (op₁::op₂::ops) (r₁::r₂::rs)=false):Zh M A (isTrue (.Compare l (op₁::op₂::ops) (r₁::r₂::rs) pos) env whole) Q E s:=by
 have e:isTrue (.Compare l (op₁::op₂::ops) (r₁::r₂::rs) pos) env whole=(eval l env>>=fun a=>testChain pos a (op₁::op₂::ops) (markedEach (op₁::op₂::ops) (r₁::r₂::rs) (evalEach (r₁::r₂::rs) env))):=rfl
 rw[e,markedEach_of_false _ _ _ hm]
 exact Zb h
theorem Rm{vs keep:List aa}{f:Unit→Sem β}{Q:β→ai→Prop}(h:Zh M A (f ()) Q E s):Zh M A (release vs keep>>=f) Q E s:=fun Γ p hΓ hc=>by
 rw[tu,A00];exact h Γ p hΓ hc
theorem LU{pos:Pos}{a:aa}{op op':qw}{ops:List qw}{r r':Sem aa}{rs:List (Sem aa)}{Q:aa→ai→Prop}
  (h:Zh M A r (fun b s₁=>Zh M A (jl op a b) (fun c s₂=>Zh M A (truthy c) (fun t s₃=>if t then Zh M A (compareChain pos b (op'::ops) (r'::rs)) Q E s₃ else Q c s₃) E s₂) E s₁) E s):
  Zh M A (compareChain pos a (op::op'::ops) (r::r'::rs)) Q E s:=by
 refine Ze (m:=holding [a] r) (Zd h) fun b s₁ h₁=>Zp (Ze (Zd h₁) fun c s₂ h₂=>Rm (Ze (Zd h₂) fun t s₃ h₃=> ?_))
 cases t with
 |false=>exact Zc h₃
 |true=>exact h₃
theorem Im{pos:Pos}{a:aa}{op op':qw}{ops:List qw}{r r':Sem aa}{rs:List (Sem aa)}{Q:Bool→ai→Prop}
  (h:Zh M A r (fun b s₁=>Zh M A (jl op a b) (fun c s₂=>Zh M A (truthy c) (fun t s₃=>if t then Zh M A (testChain pos b (op'::ops) (r'::rs)) Q E s₃ else Q false s₃) E s₂) E s₁) E s):
  Zh M A (testChain pos a (op::op'::ops) (r::r'::rs)) Q E s:=by
 refine Ze (m:=holding [a] r) (Zd h) fun b s₁ h₁=>Zp (Ze (Zd h₁) fun c s₂ h₂=>Rm (Ze (Zd h₂) fun t s₃ h₃=> ?_))
 cases t with
 |false=>exact Zc h₃
 |true=>exact h₃
theorem LV{pos:Pos}{a:aa}{op:qw}{r:Sem aa}{Q:aa→ai→Prop}(h:Zh M A r (fun b s₁=>Zh M A (jl op a b) Q E s₁) E s):Zh M A (compareChain pos a [op] [r]) Q E s:=
 Ze (m:=holding [a] r) (Zd h) fun b s₁ h₁=>Zp (Xh h₁)
theorem Ip{pos:Pos}{a:aa}{op:qw}{r:Sem aa}{Q:Bool→ai→Prop}(h:Zh M A r (fun b s₁=>Zh M A (jl op a b) (fun c s₂=>Zh M A (truthy c) Q E s₂) E s₁) E s):Zh M A (testChain pos a [op] [r]) Q E s:=
 Ze (m:=holding [a] r) (Zd h) fun b s₁ h₁=>Zp (Ze (Xh h₁) fun c s₂ h₂=>Zd h₂)
theorem S4{test body orelse:Expr}{pos:Pos}{Q:aa→ai→Prop}(h:Zh M A (isTrue test env (eval test env)) (fun b s₁=>if b then Zh M A (eval body env) Q E s₁ else Zh M A (eval orelse env) Q E s₁) E s):
  Zh M A (eval (.IfExp test body orelse pos) env) Q E s:=by
 rw[arm_eval_IfExp]
 refine Ze h fun b s₁ h₁=> ?_
 cases b<;>exact h₁
theorem Q3{x:Expr}{pos:Pos}{whole:Sem aa}{Q:Bool→ai→Prop}(h:Zh M A (isTrue x env (eval x env)) (fun b s₁=>Q (!b) s₁) E s):Zh M A (isTrue (.UnaryOp .Not x pos) env whole) Q E s:=by
 rw[arm_isTrue_UnaryOp]
 exact Ze h fun b s₁ h₁=>Zc h₁
theorem S2{e:Expr}{whole:Sem aa}{Q:Bool→ai→Prop}(h:Zh M A whole (fun v s₁=>Zh M A (truthy v) Q E s₁) E s)
  (he:isTrue e env whole=(do let v ← whole;standAt e.pos;holding [v] (truthy v))):Zh M A (isTrue e env whole) Q E s:=by
 rw[he]
 exact Ze h fun v s₁ h₁=>Zp (Zd h₁)
theorem Tl{op:BoolOp}{values:List Expr}{pos:Pos}{whole:Sem aa}{Q:Bool→ai→Prop}(h:Zh M A (yz op values env) Q E s):Zh M A (isTrue (.BoolOp op values pos) env whole) Q E s:=by rw[arm_isTrue_BoolOp];exact h
theorem Up{Q:Bool→ai→Prop}(h:Q true s):Zh M A (yz .And [] env) Q E s:=up (wpAny_allTrue_And_nil h)
theorem UH{Q:Bool→ai→Prop}(h:Q false s):Zh M A (yz .Or [] env) Q E s:=up (wpAny_allTrue_Or_nil h)
theorem XC{x:Expr}{rest:List Expr}{Q:Bool→ai→Prop}(h:Zh M A (isTrue x env (eval x env)) (fun b s₁=>if b then Zh M A (yz .And rest env) Q E s₁ else Q false s₁) E s):Zh M A (yz .And (x::rest) env) Q E s:=by
 refine Ze (m:=isTrue x env (eval x env)) h fun b s₁ h₁=> ?_
 cases b
 ·exact Zc h₁
 ·exact h₁
theorem XU{x:Expr}{rest:List Expr}{Q:Bool→ai→Prop}(h:Zh M A (isTrue x env (eval x env)) (fun b s₁=>if b then Q true s₁ else Zh M A (yz .Or rest env) Q E s₁) E s):Zh M A (yz .Or (x::rest) env) Q E s:=by
 refine Ze (m:=isTrue x env (eval x env)) h fun b s₁ h₁=> ?_
 cases b
 ·exact h₁
 ·exact Zc h₁
theorem XE{value slice pos}{Q:aa→ai→Prop}(h:Zh M A (eval value env) (fun o s₁=>Zh M A (eval slice env) (fun i s₂=>Zh M A (jj value slice o i) Q E s₂) E s₁) E s):Zh M A (eval (.Subscript value slice pos) env) Q E s:=by
 rw[eval_Subscript]
 exact Ze h fun o s₁ h₁=>Ze (Zd h₁) fun i s₂ h₂=>Zp h₂
theorem FW{lower upper step:Option Expr}{p:Pos}{Q:aa→ai→Prop}
  (h:Zh M A (evalPart lower env) (fun l s₁=>Zh M A (evalPart upper env) (fun u s₂=>Zh M A (evalPart step env) (fun st s₃=>
   Q (.ref s₃.heap.objs.size) {s₃ with heap:=s₃.heap.push {cls:= .type "slice",data:= .fields #[l,u,st]}}) E s₂) E s₁) E s):Zh M A (eval (.Slice lower upper step p) env) Q E s:=by
 rw[arm_eval_Slice]
 exact Ze h fun l s₁ h₁=>Ze (Zd h₁) fun u s₂ h₂=>Ze (Zd h₂) fun st s₃ h₃=>up (qo h₃)
theorem Z8{x:Str}{p pos:Pos}{args:List Expr}{Q:aa→ai→Prop}(h:Zh M A (eval (.Name x p) env) (fun f s₁=>Zh M A (callWith pos f [] (backTo pos (starEach args env)) []) Q E s₁) E s):
  Zh M A (eval (.Call (.Name x p) args [] pos) env) Q E s:=Zb h
theorem ZG{x:Sem aa}{rest:List (Bool × Sem aa)}{Q:List aa→ai→Prop}(h:Zh M A x (fun v s₁=>Zh M A (spliced rest) (fun vs s₂=>Q (v::vs) s₂) E s₁) E s):Zh M A (spliced ((false,x)::rest)) Q E s:=by
 rw[spliced]
 refine Ze h fun v s₁ h₁=> ?_
 simp only[sf,if_false]
 exact Zb (Zc (Ze (Zd h₁) fun vs s₂ h₂=>Zc h₂))
theorem Z6{Q:List aa→ai→Prop}(h:Q [] s):Zh M A (spliced []) Q E s:=up (PySem.Calls.spliced_nil h)
theorem Yu{f:aa}{args:List (Bool × Sem aa)}{Q:Args→ai→Prop}(hp:args.any (·.1)=false)(h:Zh M A (spliced args) (fun vs s'=>Q ⟨vs,[]⟩ s') E s):Zh M A (yr f true args []) Q E s:=by
 unfold yr
 cases args with
 |nil=>exact Ze (m:=spliced []) h fun vs s' h'=>Zb (Zc (Zd (Zb (Zc (Zb (Zc (Zc h')))))))
 |cons a r=>
  obtain⟨b,x⟩:=a
  have hb:b=false:=by rw[List.any_cons,A01] at hp;exact hp.1
  subst hb
  exact Ze (m:=spliced ((false,x)::r)) h fun vs s' h'=>Zd (Zb (Zc (Zb (Zc (Zc h')))))
theorem WC{t:Sem aa}{Q:aa→ai→Prop}(h:Zh M A t Q E s):Zh M A (t>>=fun r=>holding [r] point>>=fun _=>pure r) Q E s:=
 Ze h fun r s₁ h₁=>Zb (Zd (up (wpAny_point (Zc h₁))))
theorem Y5{pos:Pos}{id:String}{first:List aa}{args:List (Bool × Sem aa)}{Q:aa→ai→Prop}(hplain:args.any (·.1)=false)
  (h:Zh M A (yr (.builtin id) true args []) (fun a s₁=>Zh M A (call (.builtin id) (first++a.pos) a.kw) Q E s₁) E s):Zh M A (callWith pos (.builtin id) first args []) Q E s:=by
 unfold callWith
 refine Ze (Zd h) fun a s₁ h₁=>Zp ?_
 simp only[hplain,A0H,ye]
 exact Zb (up (bg (WC h₁)))
theorem VG{pos:Pos}{T:String}{first:List aa}{args:List (Bool × Sem aa)}{Q:aa→ai→Prop}(hplain:args.any (·.1)=false)
  (h:Zh M A (yr (.type T) true args []) (fun a s₁=>Zh M A (call (.type T) (first++a.pos) a.kw) Q E s₁) E s):Zh M A (callWith pos (.type T) first args []) Q E s:=by
 unfold callWith
 refine Ze (Zd h) fun a s₁ h₁=>Zp ?_
 simp only[hplain,A0H,ye]
 exact Zb (up (bg (WC h₁)))
theorem UG{pos:Pos}{a:Addr}{o:Obj}{fd:jh}{first:List aa}{args:List (Bool × Sem aa)}{Q:aa→ai→Prop}(hplain:args.any (·.1)=false)
  (h:Zh M A (yr (.ref a) true args []) (fun x s₁=>(s₁.heap.get? a=some o∧o.data= .func fd)∧Zh M A (call (.ref a) (first++x.pos) x.kw) Q E s₁) E s):Zh M A (callWith pos (.ref a) first args []) Q E s:=by
 unfold callWith
 refine Ze (Zd h) fun x s₁ h₁=>Zp ?_
 simp only[hplain,A0H,ye]
 refine Zb (m:=keeperOf (.ref a)) ?_
 unfold keeperOf
 refine Zb (up (nu h₁.1.1 ?_))
 rw[h₁.1.2]
 refine Zc ?_
 dsimp only
 split
 ·exact WC h₁.2
 ·exact WC (by unfold callMarked;exact DW h₁.2)
theorem ZY{Q:Flow→ai→Prop}(h:Q .next s):Zh M A (execs [] env) Q E s:=up (zh h)
theorem ZP{st rest}{Q:Flow→ai→Prop}(h:Zh M A (exec st env) (fun f s'=>match f with| .next=>Zh M A (execs rest env) Q E s'|f=>Q f s') E s):Zh M A (execs (st::rest) env) Q E s:=by
 rw[execs_cons]
 refine Ze h fun f s' h'=> ?_
 cases f<;>first|exact h'|exact Zc h'
theorem DX{test body orelse pos}{Q:Flow→ai→Prop}(h:Zh M A (isTrue test env (eval test env)) (fun b s₂=>if b then Zh M A (execs body env) Q E s₂ else Zh M A (execs orelse env) Q E s₂) E s):Zh M A (exec (.If test body orelse pos) env) Q E s:=by
 rw[exec_If]
 refine Zp (Ze h fun b s₂ h₂=> ?_)
 cases b<;>exact h₂
theorem XN{e pos}{Q:Flow→ai→Prop}(h:Zh M A (eval e env) (fun v=>Q (.ret v)) E s):Zh M A (exec (.Return (some e) pos) env) Q E s:=by
 rw[exec_Return_some]
 exact Zp (Ze h fun v s₁ h₁=>Zc h₁)
theorem Q2{e pos}{Q:Flow→ai→Prop}(h:Zh M A (eval e env) (fun v s'=>match v with| .ref _=>False|_=>Q .next s') E s)(hi:interactive env=false)(hs:swapsWith e none pos.line env=pure false):
  Zh M A (exec (.Expr e pos) env) Q E s:=by
 rw[exec_Expr env e pos hi hs]
 refine Zp (Ze h fun v s' h'=> ?_)
 have hv:∀a,v≠.ref a:=fun a hva=>by subst hva;exact h'
 rw[dropValue_plain hv]
 refine Zc ?_
 cases v<;>first|exact h'|exact(hv _ rfl).elim
theorem XZ{x:Str}{v:aa}{Q:Unit→ai→Prop}(h:Zh M A (uq env x v) Q E s):Zh M A (A0I env x v) Q E s:=fun Γ p hΓ hc=>by rw[Sem.wp_bindName];exact h Γ p hΓ hc
theorem ZD{x pos' value pos}{Q:Flow→ai→Prop}(h:Zh M A (eval value env) (fun v s₁=>Zh M A (uq env x v) (fun _=>Q .next) E s₁) E s)
  (hs:swapsWith value (some (.Name x pos')) pos.line env=pure false):Zh M A (exec (.Assign [.Name x pos'] value pos) env) Q E s:=by
 rw[exec_Assign_Name env x pos' value pos hs]
 exact Zp (Ze h fun v s₁ h₁=>Zp (Ze (XZ h₁) fun _ s₂ h₂=>Zc h₂))
theorem UE{x pos' op value pos}{Q:Flow→ai→Prop}(h:Zh M A (loadName env x) (fun old s₁=>Zh M A (eval value env) (fun v s₂=>Zh M A (inplaceOp op old v) (fun r s₃=>Zh M A (uq env x r) (fun _=>Q .next) E s₃) E s₂) E s₁) E s):
  Zh M A (exec (.AugAssign (.Name x pos') op value pos) env) Q E s:=by
 rw[exec_AugAssign_Name]
 exact Zp (Ze h fun old s₁ h₁=>Ze (Zd h₁) fun v s₂ h₂=>Zp (Ze (Xh h₂) fun r s₃ h₃=>Zp (Ze (XZ h₃) fun _ s₄ h₄=>Zc h₄)))
theorem Ux{elts k tpos value pos}{Q:Flow→ai→Prop}(h:Zh M A (eval value env) (fun v s₁=>Zh M A (assign (.Tuple elts k tpos) env v) (fun _=>Q .next) E s₁) E s)
  (hs:yf [.Tuple elts k tpos] value pos.line env=pure false) (hw:ux [.Tuple elts k tpos] value env=pure none):Zh M A (exec (.Assign [.Tuple elts k tpos] value pos) env) Q E s:=by
 rw[exec_Assign]
 refine Zp ?_
 rw[hs]
 refine Zb (Zc ?_)
 rw[if_neg (by decide)]
 refine Ze h fun v s₁ h₁=> ?_
 rw[hw]
 exact Zb (Zc (Ze (m:=assign (.Tuple elts k tpos) env v) h₁ fun _ s₂ h₂=>Zc h₂))
theorem Y3{elts k tpos value pos}{names:List Str}{Q:Flow→ai→Prop}
  (h:Zh M A (eval value env) (fun v s₁=>Zh M A (unpackItems v names.length none) (fun items s₂=>Zh M A (yg (names.reverse.map fun n=>A0I env n) items.reverse) (fun _=>Q .next) E s₂) E s₁) E s)
  (hs:yf [.Tuple elts k tpos] value pos.line env=pure false) (hw:ux [.Tuple elts k tpos] value env=pure (some names)):Zh M A (exec (.Assign [.Tuple elts k tpos] value pos) env) Q E s:=by
 rw[exec_Assign]
 refine Zp ?_
 rw[hs]
 refine Zb (Zc ?_)
 rw[if_neg (by decide)]
 refine Ze h fun v s₁ h₁=> ?_
 rw[hw]
 exact Zb (Zc (VF (Ze h₁ fun items s₂ h₂=>Ze h₂ fun _ s₃ h₃=>Zc h₃)))
end
section
variable{prog:k9}{w:b3}{A:bz}{E:aa→ai→Prop}{s:ai}{env:Env}
theorem ZM{elts:List Expr}{pos:Pos}{Q:aa→ai→Prop}
  (h:Zh (model prog w) A (spliced (backTo pos (starEach elts env))) (fun vs s₁=>vs.length≤sizeLine∧Q (.ref s₁.heap.objs.size) {s₁ with heap:=s₁.heap.push {cls:= .type "list",data:= .seq vs.toArray}}) E s):Zh (model prog w) A (eval (.List elts pos) env) Q E s:=by
 rw[arm_eval_List]
 exact Zp (Ze h fun vs s₁ h₁=>up (A0p h₁.2 h₁.1))
theorem Y6{elts:List Expr}{x1}{pos:Pos}{Q:aa→ai→Prop}
  (h:Zh (model prog w) A (spliced (backTo pos (starEach elts env))) (fun vs s₁=>vs.length≤sizeLine∧Q (.ref s₁.heap.objs.size) {s₁ with heap:=s₁.heap.push {cls:= .type "tuple",data:= .seq vs.toArray}}) E s):Zh (model prog w) A (eval (.Tuple elts x1 pos) env) Q E s:=by
 rw[arm_eval_Tuple]
 exact Zp (Ze h fun vs s₁ h₁=>up (wpAny_newTuple h₁.2 h₁.1))
def Xd(M:o8)(A:bz)(env:Env)(E:aa→ai→Prop):aa→ai→Prop:=fun x s'=>Zh M A (n7 x env) (fun _ s''=>E x s'') E s'
theorem S3{α:Type}{M:o8}{m:Sem α}{Q:α→ai→Prop}(h:Zh M A m Q (Xd M A env E) s):Zh M A (m.onRaise fun x=>do n7 x env;vg x) Q E s:=
 Xg (Zi h (fun _ _ q=>q) fun _ _ hx=>Ze hx fun _ _ e=>up (wpAny_theTreesLotGoes e))
def Qz(M:o8)(A:bz)(env:Env)(E:aa→ai→Prop):aa→ai→Prop:=fun x s'=>Zh M A (do
  if (← field x 1)== .none then unsupported "frame.own-activation:exception-without-traceback"
  setFlight x env.frame) (fun _ s''=>E x s'') E s'
theorem Q1{M:o8}{c:Code}{h:Option aa}{Q:Flow→ai→Prop}(hcl:Xc c=true)(hc:ZU M (A.mark h) c (fun r s'=>match r with| .ok f=>Q f s'| .error e=>Qz M A env E e s') s)(hnb:h≠some byPass):
  Zh M A (runOwn c env h) Q E s:=by
 unfold runOwn
 exact Xg (HX hcl hc hnb)
theorem FZ{M:o8}{test body orelse pos}{Q:Flow→ai→Prop}(h:ZU M A (.whileLoop test body orelse env) (fun r s'=>match r with| .ok f=>Q f s'| .error e=>Qz M A env E e s') s):Zh M A (exec (.While test body orelse pos) env) Q E s:=by
 rw[exec_While];exact Zp (Q1 rfl h fun x=>nomatch x)
theorem RB{R:ly→ai→Prop}{test body orelse}(I:Nat→ai→Prop)
  (turn:∀n s,I n s→Zh (model prog w) A (isTrue test env (eval test env)) (fun b s₂=>
    if b then Zh (model prog w) A (execs body env) (fun f s₃=>match f with
      | .next| .cont=>∃m,m<n∧I m s₃
      | .brk=>R (.ok .next) s₃
      | .ret v=>R (.ok (.ret v)) s₃) (Xd (model prog w) A env fun e s'=>R (.error e) s') s₂
    else Zh (model prog w) A (execs orelse env) (fun f s₃=>R (.ok f) s₃) (Xd (model prog w) A env fun e s'=>R (.error e) s') s₂) (Xd (model prog w) A env fun e s'=>R (.error e) s') s)
  (n:Nat) (h:I n s):ZU (model prog w) A (.whileLoop test body orelse env) R s:=by
 refine Vd rfl rfl I (fun n s hI=> ?_) n h
 refine S3 (m:=whileTurn test body orelse env) ?_
 unfold whileTurn
 refine Ze (turn n s hI) fun b s₂ h₂=> ?_
 cases b with
 |false=>exact Ze (m:=execs orelse env) h₂ fun f s₃ h₃=>Zc h₃
 |true=>
  refine Ze (m:=execs body env) h₂ fun f s₃ h₃=> ?_
  cases f with
  |next=>exact Zc (.inl ⟨rfl,h₃⟩)
  |cont=>exact Zc (.inl ⟨rfl,h₃⟩)
  |brk=>exact Zc h₃
  |ret v=>exact Zc h₃
theorem LX{stmts:List Stmt}{R:ly→ai→Prop}(h:Zh (model prog w) A (execs stmts env) (fun f s'=>R (.ok f) s') (Xd (model prog w) A env fun e s'=>R (.error e) s') s):ZU (model prog w) A (.block stmts env) R s:=by
 refine Z3 ?_
 refine Zb (m:=(execs stmts env).onRaise fun x=>do n7 x env;vg x) (S3 (Zi h (fun f s' h'=>Zc h') fun _ _ h'=>h'))
theorem Uw{R:ly→ai→Prop}{target it body orelse}(I:Nat→ai→Prop)
  (turn:∀n s,I n s→Zh (model prog w) A (pyNext it) (fun r s₁=>match r with
   |none=>Zh (model prog w) A (execs orelse env) (fun f s₃=>R (.ok f) s₃) (Xd (model prog w) A env fun e s'=>R (.error e) s') s₁
   |some v=>Zh (model prog w) A (vj target it v) (fun _ s₀=>Zh (model prog w) A (assign target env v) (fun _ s₂=>Zh (model prog w) A (execs body env) (fun f s₃=>match f with
     | .next| .cont=>∃m,m<n∧I m s₃
     | .brk=>R (.ok .next) s₃
     | .ret v=>R (.ok (.ret v)) s₃) (Xd (model prog w) A env fun e s'=>R (.error e) s') s₂) (Xd (model prog w) A env fun e s'=>R (.error e) s') s₀) (Xd (model prog w) A env fun e s'=>R (.error e) s') s₁) (Xd (model prog w) A env fun e s'=>R (.error e) s') s)
  (n:Nat) (h:I n s):ZU (model prog w) A (.forLoop target it body orelse env) R s:=by
 refine Vd rfl rfl I (fun n s hI=> ?_) n h
 refine S3 (m:=forTurn target it body orelse env) ?_
 unfold forTurn
 refine Zp (Ze (P:=_) (Xg (Zi (turn n s hI) (fun r s₁ h₁=>h₁) fun _ _ h'=>up (qi h'))) fun r s₁ h₁=> ?_)
 cases r with
 |none=>exact Zc (.inr ⟨rfl,rfl,LX h₁⟩)
 |some v=>
  refine Ze h₁ fun _ s₀ h₀=>Ze h₀ fun _ s₂ h₂=>Ze h₂ fun f s₃ h₃=> ?_
  cases f with
  |next=>exact Zc (.inl ⟨rfl,h₃⟩)
  |cont=>exact Zc (.inl ⟨rfl,h₃⟩)
  |brk=>exact Zc h₃
  |ret v=>exact Zc h₃
theorem HY{M:o8}{target iter body orelse pos}{Q:Flow→ai→Prop}
  (h:Zh M A (eval iter env) (fun x s₁=>Zh M A (pyIter x) (fun it s₂=>ZU M A (.forLoop target it body orelse env) (fun r s'=>match r with| .ok f=>Q f s'| .error e=>Qz M A env E e s') s₂) E s₁) E s)
  (hs:∀x,xu iter env x=pure x):Zh M A (exec (.For target iter body orelse pos) env) Q E s:=by
 rw[exec_For]
 refine Zp (Ze h fun x s₁ h₁=> ?_)
 rw[hs x]
 exact Zb (Zc (Zp (Ze (Zd h₁) fun it s₂ h₂=>Q1 rfl h₂ fun x=>nomatch x)))
theorem Io{R:ly→ai→Prop} {body}
  (h:Zh (model prog w) (A.deeper env) (execs body env) (fun f s'=>R (.ok (.ret (match f with| .ret v=>v|_=> .none))) s')
   (fun e s'=>Zh (model prog w) (A.deeper env) (leaving env e) (fun _ s''=>R (.error e) s'') (fun e' s''=>R (.error e') s'') s') s):ZU (model prog w) A (.func body env) R s:=by
 refine Z3 ?_
 refine Zb (m:=point) (up (wpAny_point ?_))
 refine Zb (m:=(execs body env).onRaise (leaving env)) (Xg (Zi h (fun f s' h'=> ?_) fun _ _ h'=>h'))
 cases f<;>exact Zc h'
end
end
end
section
open PyProof.Rows PySem PySem.Calls PySem.W
inductive D where
 |none|bool (b:Bool)|int (i:Int)|str (s:Str)|bytes (l:List Int)
 |tup (l:List D)|list (l:List D)|inst (c:Nat) (l:List D)|fn (f:Nat)
set_option genCtorIdx true in
inductive Tag where|digits|one|sink|cur
inductive S where|d(v:D)|tag(t:Tag)|own(l:List D)|X4(l:List Int)
noncomputable def S.ctorIdx(x:S):Nat:=S.casesOn x (fun _=>0) (fun _=>1) (fun _=>2) (fun _=>3)
structure St where
 digits:Option (List Int):=pg
 one:Option Int:=pg
 sink:Option (List Int):=pg
 cur:Option (List Int × Int × Int):=pg
abbrev Xp:=Nat→Str→Int→St→Prop
abbrev Ev:=List (Option S)
inductive PE where
 |bad|nil|cons (a r:PE)
 |lit (v:D)|var (i:Nat)
 |bin (op:qx) (a b:PE)|neg (a:PE)|not (a:PE)
 |and (a b:PE)|or (a b:PE)
 |cmp (op:qw) (a b:PE)|S6 (o1 o2:qw) (a b c:PE)
 |ite (t a b:PE)
 |tup (es:PE)|lst (es:PE)
 |call (f:Nat) (es:PE)|Gd (i:Nat) (es:PE)|Zv (i:Nat) (m:Nat) (es:PE)
 |inst (c:Nat) (es:PE)
 |blt (b:Nat) (es:PE)
 |attr (a:PE) (n:Nat)
 |sub (a i:PE)|lV (a lo hi:PE)
 |comp (elt:PE) (is:List Nat) (iter:PE) (cond:PE)
 |Uq (g:Nat) (a:PE)|XF (g:Nat) (a:PE)
inductive PS where
 |bad|skip|seq (a b:PS)
 |ex (e:PE)
 |ret (e:PE)|Zl (e:PE)
 |set (i:Nat) (e:PE)
 |UI (i:Nat) (es:PE)
 |RT (i:Nat) (e:PE)
 |RO (i:Nat)
 |Ur (is:List Nat) (e:PE)
 |VH (is:List Nat) (es:PE)
 |Gb (i j:Nat) (es:PE) (e:PE)
 |HZ (i j:Nat) (es es':PE)
 |aug (i:Nat) (op:qx) (e:PE)
 |app (i:Nat) (e:PE)|ext (i:Nat) (e:PE)|RU (i:Nat)
 |W3 (i:Nat) (e:PE)|Tq (i:Nat) (e:PE)|ON (i:Nat) (e:PE)|NR (i:Nat) (e:PE)
 |ite (t:PE) (a b:PS)
 |wh (t:PE) (b:PS)
 |VC (is:List Nat) (it:PE) (b:PS)
 |raise (k:Nat) (es:PE)
noncomputable abbrev YU:Nat:=16777216
def No1:Prop:=False
def No2:Prop:=No1
def No3:Prop:=No2
def No4:Prop:=No3
def No5:Prop:=No4
def No6:Prop:=No5
def No7:Prop:=No6
def No8:Prop:=No7
def No9:Prop:=No8
def Adg:Prop:=No9
def Ade:Prop:=Adg
def Adf:Prop:=Ade
def AcZ:Prop:=Adf
def Adb:Prop:=AcZ
def sJ:Prop:=Adb
def Adi:Prop:=sJ
def Adj:Prop:=Adi
def Aaj:Prop:=Adj
def Adh:Prop:=Aaj
def AcX:Prop:=Adh
def No:Prop:=AcX
def W2(b:Bool)(K:Prop):Prop:=match b with|true=>K|false=>sJ
def gd(b:Bool)(K:Prop):Prop:=match b with|true=>K|false=>sJ
theorem Uy{b:Bool}{K:Prop}(h:gd b K):b=true∧K:=by cases b;exact False.elim h;exact⟨rfl,h⟩
def lim(n:Nat)(K:Prop):Prop:=W2 (nj n YU) K
theorem Zk{b:Bool}{K:Prop}(h:W2 b K):b=true∧K:=by cases b;exact False.elim h;exact⟨rfl,h⟩
theorem Z5{b:Bool}{K:Prop}(e:b=true)(h:K):W2 b K:=by cases e;exact h
theorem Yv{n:Nat}{K:Prop}(h:lim n K):n≤YU∧K:=⟨cw (Zk h).1,(Zk h).2⟩
theorem Zr{n:Nat}{K:Prop}(e:n≤YU)(h:K):lim n K:=Z5 (zu e) h
def Ka(b:Bool)(T F:Prop)(_:Bool):Prop:=match b with|true=>T|false=>F
theorem Zu{b:Bool}{T F:Prop}(h1:b=true→T)(h2:b=false→F):Ka b T F b:=by cases b;exact h2 rfl;exact h1 rfl
theorem Wg{b:Bool}{T F:Prop}(e:b=true)(h:T):Ka b T F b:=by cases e;exact h
theorem Zn{b:Bool}{T F:Prop}(e:b=false)(h:F):Ka b T F b:=by cases e;exact h
theorem NO{b:Bool}{T A B:Prop}(h:b=true→B→T)(f:B):Ka b T (Ka false A B false) b:=Zu (fun e=>h e f) fun _=>f
def bnd{α:Type}(o:Option α)(K:α→Prop):Prop:=match o with|some a=>K a|none=>False
def XK{α:Type}(o:Option α)(K:α→Prop):Prop:=match o with|some a=>K a|none=>Aaj
theorem Zw{α:Type}{o:Option α}{K:α→Prop}{P:Prop}(h:XK o K)(k:∀a,o=some a→K a→P):P:=by cases o with|none=>exact False.elim h|some a=>exact k a rfl h
theorem Yh{α:Type}{o:Option α}{K:α→Prop}{a:α}(e:o=some a)(h:K a):XK o K:=by cases e;exact h
def RQ(a:S)(K:D→Prop):Prop:=match a with| .d v=>K v|_=>No
def cL(a:S)(K:D→Prop):Prop:=match a with| .d v=>K v|_=>No
theorem ZQ{v:D}{K:D→Prop}(h:K v):cL (.d v) K:=h
def sI(v:D)(K:Int→Prop):Prop:=match v with| .int x=>K x|_=>No
def Aai(v:D)(K:Str→Prop):Prop:=match v with| .str x=>K x|_=>No
def Aau(v:D)(K:List D→Prop):Prop:=match v with| .tup x=>K x|_=>No
def dD(v:D)(K:List D→Prop):Prop:=match v with| .list x=>K x|_=>No
def Aam(v:D)(K:List Int→Prop):Prop:=match v with| .bytes x=>K x|_=>No
def ZK(a:S)(K:Int→Prop):Prop:=RQ a fun v=>sI v K
def onStr(a:S)(K:Str→Prop):Prop:=RQ a fun v=>Aai v K
def OO(a:S)(K:List D→Prop):Prop:=RQ a fun v=>Aau v K
def V0(a:S)(K:List D→Prop):Prop:=RQ a fun v=>dD v K
def Aar(a:S)(K:List Int→Prop):Prop:=RQ a fun v=>Aam v K
def LZ(a:S)(K:Tag→Prop):Prop:=match a with| .tag t=>K t|_=>No
noncomputable def D.isNone:D→Bool
 | .none=>true
 |_=>false
def L7(l:List S)(K:S→Prop):Prop:=match l with|[a]=>K a|_=>No
def on2(l:List S)(K:S→S→Prop):Prop:=match l with|[a,b]=>K a b|_=>No
def Gg(op:qx)(K:Prop):Prop:=match op with| .Add=>K|_=>No
def intOp(op:qx)(x y:Int)(Q:D→Prop):Prop:=
 match op with
 | .Add=>Q (.int (x+y))
 | .Sub=>Q (.int (x - y))
 | .Mult=>W2 (decide (x.natAbs<2^60)) (Q (.int (x*y)))
 | .FloorDiv=>W2 (decide (y≠0)) (Q (.int (x.fdiv y)))
 | .Mod=>W2 (decide (y≠0)) (Q (.int (x.fmod y)))
 | .Pow=>W2 (decide (0≤y)&&(decide (y≤1000)&&decide (x.natAbs≤1000))) (Q (.int (x^y.toNat)))
 | .LShift=>W2 (decide (0≤y)&&(decide (y≤1000)&&decide (x.natAbs<2^60))) (Q (.int (x*2^y.toNat)))
 | .RShift=>W2 (decide (0≤y)) (Q (.int (x.fdiv (2^y.toNat))))
 | .BitAnd=>Q (.int (fy x y))
 | .BitOr=>Q (.int (yh x y))
 |_=>No
def Adm(op:qx)(v:D)(b:S)(Q:D→Prop):Prop:=
 match v with
 | .int x=>ZK b fun y=>intOp op x y Q
 | .list x=>V0 b fun y=>Gg op (lim (x++y).length (Q (.list (x++y))))
 | .tup x=>OO b fun y=>Gg op (lim (x++y).length (Q (.tup (x++y))))
 |_=>No
def Ea(op:qx)(a b:S)(Q:D→Prop):Prop:=RQ a fun v=>Adm op v b Q
def NP(v:D)(Q:Bool→Prop):Prop:=
 match v with
 | .bool b=>Q b
 | .int i=>Q (i !=0)
 | .none=>Q false
 |_=>No
def Q8(a:S)(Q:Bool→Prop):Prop:=RQ a fun v=>NP v Q
noncomputable def D.Yb:Nat→D→Bool
 |n,d=>match d with
  | .none=>true
  | .int _=>true
  | .str _=>true
  | .bytes _=>true
  | .tup l=>match n with|0=>false|n+1=>l.all (D.Yb n)
  | .list l=>match n with|0=>false|n+1=>l.all (D.Yb n)
  |_=>false
noncomputable def D.toInt:D→Option Int
 | .int i=>some i
 |_=>pg
noncomputable def D.toStr:D→Option Str
 | .str i=>some i
 |_=>pg
noncomputable def D.toBool:D→Option Bool
 | .bool i=>some i
 |_=>pg
noncomputable def reads{β α:Type}(f:β→Option α):List β→Option (List α)
 |[]=>some []
 |d::r=>(f d).bind fun a=>(reads f r).map (a:: ·)
theorem YB{β α:Type}{f:β→Option α}{d:β}{r:List β}{as:List α}(e:reads f (d::r)=some as){P:Prop}(k:∀a bs,f d=some a→reads f r=some bs→a::bs=as→P):P:=
 (av.mp e).elim fun a h=>(bk.mp h.2).elim fun bs g=>k a bs h.1 g.1 g.2
theorem no{α:Type}{a:α}{P:Prop}(q:pg=some a):P:=nomatch q
noncomputable abbrev YQ:List D→Option (List Int):=reads D.toInt
noncomputable abbrev Iq:List D→Option (List Str):=reads D.toStr
noncomputable abbrev boolsOf:List D→Option (List Bool):=reads D.toBool
noncomputable def D.Ug(d:D):Bool:=d.isNone||d.toInt.isSome
@[irreducible] noncomputable def sEq (x y:Str):Bool:=decide (x=y)
@[irreducible] noncomputable def sIn (ns:List Str) (x:Str):Bool:=ns.any (· ==x)
theorem Cb(x y:Str):(x==y)=sEq x y:=by unfold sEq;rfl
theorem rZ(ns:List Str)(x:Str):ns.any (· ==x)=sIn ns x:=by unfold sIn;rfl
def eqS(a b:S)(Q:Bool→Prop):Prop:=RQ a fun v=>
 match v with
 | .int x=>ZK b fun y=>Q (decide (x=y))
 | .str x=>onStr b fun y=>Q (sEq x y)
 | .tup x=>OO b fun y=>(x=y∧(D.tup x).Yb 8=true)∧Q true
 |_=>No
def Aay(a b:S)(Q:Bool→Prop):Prop:=V0 b fun y=>W2 y.isEmpty (match a with
 | .own l=>Q (!l.isEmpty)
 | .d v=>dD v fun l=>Q (!l.isEmpty)
 |_=>No)
def neS(a b:S)(Q:Bool→Prop):Prop:=
 match a with
 | .own _=>Aay a b Q
 | .d v=>match v with
  | .list _=>Aay a b Q
  |_=>eqS a b fun r=>Q (!r)
 |_=>No
def isS(a b:S)(Q:Bool→Prop):Prop:=RQ b fun u=>W2 u.isNone (RQ a fun v=>Q v.isNone)
def inS(a b:S)(Q:Bool→Prop):Prop:=RQ a fun v=>
 match v with
 | .int x=>OO b fun l=>XK (YQ l) fun ns=>Q (ns.any (· ==x))
 | .str x=>OO b fun l=>XK (Iq l) fun ns=>Q (sIn ns x)
 | .none=>V0 b fun l=>W2 (l.all D.Ug) (Q (l.any D.isNone))
 |_=>No
def LY(op:qw)(a b:S)(Q:Bool→Prop):Prop:=
 match op with
 | .Eq=>eqS a b Q
 | .NotEq=>neS a b Q
 | .Lt=>ZK a fun x=>ZK b fun y=>Q (decide (x<y))
 | .LtE=>ZK a fun x=>ZK b fun y=>Q (decide (x≤y))
 | .Gt=>ZK a fun x=>ZK b fun y=>Q (decide (y<x))
 | .GtE=>ZK a fun x=>ZK b fun y=>Q (decide (y≤x))
 | .Is=>isS a b Q
 | .IsNot=>isS a b fun r=>Q (!r)
 | .In=>inS a b Q
 | .NotIn=>ZK a fun x=>OO b fun l=>XK (YQ l) fun ns=>Q (!ns.any (· ==x))
noncomputable def fieldsOf(c:Nat):List Nat:=([[3,4,5,6,7],[3,8,5,0],[9,10,11,12]]:List (List Nat)).getD c []
noncomputable def Gf(c n:Nat):Option Nat:=(fieldsOf c).findIdx? (· ==n)
noncomputable def Ada(n:Nat)(l:List Int)(p e:Int):Option D:=([.bytes l,.int p,.int e]:List D)[n]?
def attrS(a:S)(n:Nat)(st:St)(Q:D→Prop):Prop:=
 match a with
 | .tag t=>match t with
  | .cur=>XK st.cur fun c=>XK (Ada n c.1 c.2.1 c.2.2) Q
  |_=>No
 | .d v=>match v with
  | .inst c l=>gd (jd n 13&&jd c 3) (XK (Gf c n) fun i=>XK l[i]? Q)
  |_=>No
 |_=>No
noncomputable def Uz(n:Nat)(i:Int):Option Nat:=match decide (0≤i) with
 |true=>match decide (i<n) with|true=>some i.toNat|false=>none
 |false=>match decide (0≤n+i) with|true=>some (n+i).toNat|false=>none
def Cj(l:List D)(i:Int)(Q:D→Prop):Prop:=XK (Uz l.length i) fun j=>XK l[j]? Q
def Adn(v:D)(i:Int)(Q:D→Prop):Prop:=
 match v with
 | .tup l=>Cj l i Q
 | .list l=>Cj l i Q
 | .bytes l=>W2 (decide (0≤i)) (XK l[i.toNat]? fun v=>Q (.int v))
 |_=>No
def Aaq(a i:S)(st:St)(Q:D→Prop):Prop:=ZK i fun k=>
 match a with
 | .d v=>Adn v k Q
 | .own l=>Cj l k Q
 | .tag t=>match t with
  | .one=>W2 (decide (k=0)) (XK st.one fun v=>Q (.int v))
  |_=>No
 |_=>No
noncomputable def Ro(s:Str)(x:Int):Str:=if ((w5 (some x) none 1 s.length).length==s.length)=true then s else⟨((w5 (some x) none 1 s.length).filterMap (s.cps[·]?)).toArray⟩
def Aah(a:S)(lo hi:Option S)(Q:D→Prop):Prop:=RQ a fun v=>XK lo fun lo=>ZK lo fun x=>
 match v with
 | .bytes l=>XK hi fun hi=>ZK hi fun y=>W2 (decide (0≤x)&&(decide (x≤y)&&decide (y≤l.length))) (Q (.bytes ((l.take y.toNat).drop x.toNat)))
 | .tup l=>W2 (hi.isNone&&(decide (x=1)&&nj 1 l.length)) (Q (.tup (l.drop 1)))
 | .str s=>W2 hi.isNone (lim (Ro s x).length (Q (.str (Ro s x))))
 |_=>No
noncomputable def Q7(s:Str):List D:=s.cps.toList.map fun c=> .str ⟨#[c]⟩
def DY(a:S)(Q:List D→Prop):Prop:=RQ a fun v=>
 match v with
 | .list l=>Q l
 | .tup l=>Q l
 | .bytes l=>Q (l.map .int)
 | .str s=>Q (Q7 s)
 |_=>No
noncomputable def YO(n:Nat):List D:=(fu n).map fun(k:Nat)=> .int (k:Int)
def Aal(n:Int)(K:Nat→Prop):Prop:=match n with| .ofNat k=>K k| .negSucc _=>No
noncomputable def asD:S→Option D
 | .d v=>some v
 |_=>none
noncomputable abbrev sH:List S→Option (List D):=reads asD
noncomputable def bindTo(env:Ev)(is:List Nat)(v:D):Option Ev:=
 match is with
 |[i]=>some (env.set i (some (.d v)))
 |is=>match v with
  | .tup l=>match l.length==is.length with
   |true=>some ((is.zip l).foldl (fun e p=>e.set p.1 (some (.d p.2))) env)
   |false=>none
  |_=>none
noncomputable def L8(a b:Int × Int):Bool:=decide (a.1<b.1)||(decide (a.1=b.1)&&decide (a.2<b.2))
structure S5(ps:List (Int × Int)):Prop where
 le:ps.length≤4
 nd:ps.Nodup
 first:∀j,0<j→j<ps.length→L8 (ps.getD 0 (0,0)) (ps.getD j (0,0))=true
noncomputable def pairD(p:Int × Int):D:= .tup [.int p.1,.int p.2]
noncomputable def Aao:List D→Option (Int × Int)
 |a::r=>match r with
  |b::q=>match q with
   |[]=>a.toInt.bind fun x=>b.toInt.map fun y=>(x,y)
   |_=>none
  |_=>none
 |_=>none
noncomputable def D.toPair:D→Option (Int × Int)
 | .tup l=>Aao l
 |_=>pg
theorem Tp{d:D}{i:Int}(e:d.toInt=some i):d= .int i:=by
 cases d with
 |int x=>cases e;rfl
 |_=>exact no e
theorem Ga{d:D}{i:Str}(e:d.toStr=some i):d= .str i:=by
 cases d with
 |str x=>cases e;rfl
 |_=>exact no e
theorem Ch{d:D}{i:Bool}(e:d.toBool=some i):d= .bool i:=by
 cases d with
 |bool x=>cases e;rfl
 |_=>exact no e
theorem Ce{d:D}{p:Int × Int}(e:d.toPair=some p):d=pairD p:=by
 cases d with
 |tup l=>cases l with
  |nil=>exact no e
  |cons a r=>cases r with
   |nil=>exact no e
   |cons b q=>cases q with
    |nil=>exact(av.mp e).elim fun x h=>(bk.mp h.2).elim fun y g=>by cases Tp h.1;cases Tp g.1;cases g.2;rfl
    |cons _ _=>exact no e
 |_=>exact no e
noncomputable abbrev pairsOf:List D→Option (List (Int × Int)):=reads D.toPair
noncomputable def ZR(i:Int):Bool:=decide (0≤i)&&decide (i<256)
def Aap(a:S)(Q:S→Prop):Prop:=
 match a with
 | .own l=>Q (.d (.int l.length))
 | .d v=>match v with
  | .list l=>Q (.d (.int l.length))
  | .tup l=>Q (.d (.int l.length))
  | .bytes l=>Q (.d (.int l.length))
  |_=>No
 |_=>No
def Aan(a:S)(Q:List D→Prop):Prop:=
 match a with
 | .own l=>Q l
 | .d v=>dD v Q
 |_=>No
def Aak(a:S)(Q:S→Prop):Prop:=
 match a with
 | .X4 l=>Q (.d (.bytes l))
 | .own l=>XK (YQ l) fun ns=>W2 (ns.all ZR) (Q (.d (.bytes ns)))
 | .d v=>match v with
  | .bytes l=>Q (.d (.bytes l))
  | .list l=>XK (YQ l) fun ns=>W2 (ns.all ZR) (Q (.d (.bytes ns)))
  |_=>No
 |_=>No
noncomputable def Adc:List (List S→(S→Prop)→Prop):=[
 fun as Q=>L7 as fun a=>Aap a Q,
 fun _ _=>No,
 fun as Q=>L7 as fun a=>Aan a fun l=>Q (.d (.tup l)),
 fun _ _=>No,
 fun as Q=>L7 as fun a=>Aak a Q,
 fun as Q=>on2 as fun a b=>ZK a fun x=>ZK b fun y=>Q (.d (.int (if y<x then y else x))),
 fun as Q=>L7 as fun a=>onStr a fun s=>match s.cps.toList with|[c]=>Q (.d (.int c))|_=>No,
 fun as Q=>L7 as fun a=>ZK a fun i=>W2 (decide (0≤i)&&decide (i<1114112)) (Q (.d (.str ⟨#[i.toNat]⟩))),
 fun as Q=>L7 as fun a=>V0 a fun l=>XK (boolsOf l) fun bs=>Q (.d (.bool (bs.any id))),
 fun as Q=>L7 as fun a=>V0 a fun l=>XK (pairsOf l) fun ps=>S5 ps∧∀qs:List (Int × Int),qs.Perm ps→qs.head?=ps.head?→Q (.d (.list (qs.map pairD))),
 fun as Q=>L7 as fun a=>match a with| .own l=>XK (Iq l) fun ss=>W2 (JoinOk "" ss) (Q (.d (.str (Txt.join "" ss))))|_=>No]
def Aav(b:Nat)(as:List S)(Q:S→Prop):Prop:=(Adc.getD b fun _ _=>No) as Q
noncomputable def Wf(body:Ev→St→(Option D→St→Prop)→Prop)(is:List Nat):List D→Ev→St→List D→(List D→St→Prop)→Prop
 |[],env,st,acc,Q=>Q acc st
 |x::xs,env,st,acc,Q=>bnd (bindTo env is x) fun env'=>body env' st fun o st'=>Wf body is xs env st' (match o with|some v=>acc++[v]|none=>acc) Q
noncomputable def sG:Option S→Option S
 |some v=>match v with
  | .own _=>none
  | .X4 _=>none
  |v=>some v
 |none=>none
noncomputable def clr:List Nat→Ev→Ev
 |[],e=>e
 |i::r,e=>clr r (e.set i none)
noncomputable def strip(is:List Nat)(env:Ev):Ev:=clr is (env.map sG)
noncomputable def XV(body:Ev→St→(Ev→St→Prop)→Prop)(is:List Nat):List D→Ev→St→(Ev→St→Prop)→Prop
 |[],env,st,Q=>Q env st
 |x::xs,env,st,Q=>bnd (bindTo env is x) fun env'=>body env' st fun env'' st'=>XV body is xs env'' st' Q
noncomputable def NS(t:Ev→St→(Bool→St→Prop)→Prop)(b:Ev→St→(Ev→St→Prop)→Prop):Nat→Ev→St→(Ev→St→Prop)→Prop
 |0,_,_,_=>False
 |n+1,env,st,Q=>t env st fun c st'=>Ka c (b env st' fun env' st''=>NS t b n env' st'' Q) (Q env st') c
noncomputable def lU(t:Tag):List (Nat × Nat):=match t with
 | .cur=>[(0,613),(1,606),(2,620),(3,627),(4,634),(5,641),(6,648),(7,655),(8,662),(9,669),(10,676),(11,683),(12,592)]
 | .sink=>[(0,711),(13,718),(4,725),(5,732),(14,739),(11,746)]
 |_=>[]
noncomputable def lW(t:Tag)(m:Nat):Option Nat:=(lU t).lookup m
noncomputable def RP:List Nat:=[411,432,551]
noncomputable def Ge(t:Tag)(st:St):Bool:=match t with
 | .cur=>st.cur.isSome
 | .sink=>st.sink.isSome
 |_=>false
structure Cx where
 call:Nat→List S→St→(D→St→Prop)→Xp→Prop
 Uq:Nat→Int→Option Bool
 XF:Nat→D→Option D
def VB(env:Ev)(i:Nat)(K:S→Prop):Prop:=match env[i]? with
 |some o=>match o with
  |some v=>K v
  |none=>No
 |none=>No
def Adq(a:S)(K:Nat→Prop):Prop:=RQ a fun v=>match v with| .fn f=>K f|_=>No
def NQ(vs:List S)(K:List D→Prop):Prop:=XK (sH vs) K
abbrev To:Xp:=fun _ _ _ _=>No
section
variable(C:Cx)
mutual
noncomputable def Xu:PE→Ev→St→(S→St→Prop)→Xp→Prop
 | .lit v,env,st,Q,X=>Q (.d v) st
 | .var i,env,st,Q,X=>VB env i fun v=>Q v st
 | .bin op a b,env,st,Q,X=>Xu a env st (fun x st=>Xu b env st (fun y st=>Ea op x y fun v=>Q (.d v) st) X) X
 | .neg a,env,st,Q,X=>Xu a env st (fun x st=>ZK x fun i=>Q (.d (.int (-i))) st) X
 | .and a b,env,st,Q,X=>Xu a env st (fun x st=>Q8 x fun t=>Ka t (Xu b env st Q X) (Q x st) t) X
 | .or a b,env,st,Q,X=>Xu a env st (fun x st=>Q8 x fun t=>Ka t (Q x st) (Xu b env st Q X) t) X
 | .cmp op a b,env,st,Q,X=>Xu a env st (fun x st=>Xu b env st (fun y st=>LY op x y fun v=>Q (.d (.bool v)) st) X) X
 | .S6 o1 o2 a b c,env,st,Q,X=>Xu a env st (fun x st=>Xu b env st (fun y st=>LY o1 x y fun v=>Ka v (Xu c env st (fun z st=>LY o2 y z fun v=>Q (.d (.bool v)) st) X) (Q (.d (.bool false)) st) v) X) X
 | .ite t a b,env,st,Q,X=>L6 t env st (fun v st=>Ka v (Xu a env st Q X) (Xu b env st Q X) v) X
 | .tup es,env,st,Q,X=>Wa es env st (fun vs st=>NQ vs fun l=>lim l.length (Q (.d (.tup l)) st)) X
 | .lst es,env,st,Q,X=>Wa es env st (fun vs st=>NQ vs fun l=>lim l.length (Q (.d (.list l)) st)) X
 | .call f es,env,st,Q,X=>Wa es env st (fun vs st=>C.call f vs st (fun v st=>Q (.d v) st) X) X
 | .Gd i es,env,st,Q,X=>VB env i fun v=>Adq v fun f=>W2 (RP.elem f) (Wa es env st (fun vs st=>C.call f vs st (fun v st=>Q (.d v) st) X) X)
 | .Zv i m es,env,st,Q,X=>VB env i fun v=>LZ v fun t=>XK (lW t m) fun f=>gd (Ge t st) (Wa es env st (fun vs st=>C.call f (.tag t::vs) st (fun v st=>Q (.d v) st) X) X)
 | .inst c es,env,st,Q,X=>Wa es env st (fun vs st=>NQ vs fun l=>gd (qp l.length (fieldsOf c).length&&jd c 3) (Q (.d (.inst c l)) st)) X
 | .blt b es,env,st,Q,X=>Wa es env st (fun vs st=>Aav b vs fun v=>Q v st) X
 | .attr a n,env,st,Q,X=>Xu a env st (fun x st=>attrS x n st fun v=>Q (.d v) st) X
 | .sub a i,env,st,Q,X=>Xu a env st (fun x st=>Xu i env st (fun y st=>Aaq x y st fun v=>Q (.d v) st) X) X
 | .lV a lo hi,env,st,Q,X=>Xu a env st (fun x st=>wpO lo env st (fun l st=>wpO hi env st (fun h st=>Aah x l h fun v=>Q (.d v) st) X) X) X
 | .comp elt is it cond,env,st,Q,X=>xS it env st (fun items st=>lim items.length (Wf (fun env st k=>dB cond env st (fun b st=>Ka b (Xu elt env st (fun v st=>RQ v fun v=>k (some v) st) To) (k none st) b) To) is items (strip is env) st [] (fun l st=>Q (.d (.list l)) st))) X
 | .Uq g a,env,st,Q,X=>Xu a env st (fun x st=>ZK x fun i=>XK (C.Uq g i) fun b=>Q (.d (.bool b)) st) X
 | .XF g a,env,st,Q,X=>Xu a env st (fun x st=>RQ x fun i=>XK (C.XF g i) fun v=>Q (.d v) st) X
 | .bad,_,_,_,_=>No
 | .not _,_,_,_,_=>No
 | .nil,_,_,_,_=>No
 | .cons _ _,_,_,_,_=>No
noncomputable def Wa:PE→Ev→St→(List S→St→Prop)→Xp→Prop
 | .nil,env,st,Q,X=>Q [] st
 | .cons a r,env,st,Q,X=>Xu a env st (fun x st=>Wa r env st (fun xs st=>Q (x::xs) st) X) X
 |_,_,_,_,_=>No
noncomputable def wpO:PE→Ev→St→(Option S→St→Prop)→Xp→Prop
 | .nil,env,st,Q,X=>Q none st
 | .cons a _,env,st,Q,X=>Xu a env st (fun x st=>Q (some x) st) X
 |_,_,_,_,_=>No
noncomputable def xS:PE→Ev→St→(List D→St→Prop)→Xp→Prop
 | .blt b es,env,st,Q,X=>Wa es env st (fun vs st=>gd (qp b 1) (L7 vs fun a=>ZK a fun n=>Aal n fun k=>lim k (Q (YO k) st))) X
 | .cons a _,env,st,Q,X=>Xu a env st (fun x st=>DY x fun l=>Q l st) X
 |_,_,_,_,_=>No
noncomputable def dB:PE→Ev→St→(Bool→St→Prop)→Xp→Prop
 | .nil,env,st,Q,X=>Q true st
 | .cons a _,env,st,Q,X=>L6 a env st Q X
 |_,_,_,_,_=>No
noncomputable def L6:PE→Ev→St→(Bool→St→Prop)→Xp→Prop
 | .not a,env,st,Q,X=>L6 a env st (fun b st=>Q (!b) st) X
 | .and a b,env,st,Q,X=>L6 a env st (fun t st=>Ka t (L6 b env st Q X) (Q false st) t) X
 | .or a b,env,st,Q,X=>L6 a env st (fun t st=>Ka t (Q true st) (L6 b env st Q X) t) X
 | .cmp op a b,env,st,Q,X=>Xu a env st (fun x st=>Xu b env st (fun y st=>LY op x y fun v=>Q v st) X) X
 | .S6 o1 o2 a b c,env,st,Q,X=>Xu a env st (fun x st=>Xu b env st (fun y st=>LY o1 x y fun v=>Ka v (Xu c env st (fun z st=>LY o2 y z fun v=>Q v st) X) (Q false st) v) X) X
 | .lit v,env,st,Q,X=>NP v fun b=>Q b st
 | .var i,env,st,Q,X=>VB env i fun v=>Q8 v fun b=>Q b st
 | .bin op a b,env,st,Q,X=>Xu a env st (fun x st=>Xu b env st (fun y st=>Ea op x y fun v=>NP v fun b=>Q b st) X) X
 | .call f es,env,st,Q,X=>Wa es env st (fun vs st=>C.call f vs st (fun v st=>NP v fun b=>Q b st) X) X
 | .Uq g a,env,st,Q,X=>Xu a env st (fun x st=>ZK x fun i=>XK (C.Uq g i) fun b=>Q b st) X
 |_,_,_,_,_=>No
end
end
noncomputable def NT:Option S→Option S
 |some v=>match v with
  | .own l=>some (.d (.list l))
  | .X4 _=>none
  |v=>some v
 |none=>none
noncomputable def freeze(env:Ev):Ev:=env.map NT
noncomputable def ZO:S→Bool
 | .own _=>true
 | .X4 _=>true
 |_=>false
noncomputable def Ci:Option S→Bool
 |some v=> !ZO v
 |none=>true
noncomputable def noOwn:Nat→Ev→Bool
 |_,[]=>true
 |0,_::r=>r.all Ci
 |i+1,o::r=>Ci o&&noOwn i r
def Aas(i:Nat)(env:Ev)(v:S)(a:S)(K:Ev→Prop):Prop:=match a with
 | .own l=>RQ v fun d=>lim (l.length+1) (K (env.set i (some (.own (l++[d])))))
 | .X4 l=>ZK v fun x=>lim (l.length+1) (W2 (ZR x) (K (env.set i (some (.X4 (l++[x]))))))
 |_=>No
def Aaw(i:Nat)(env:Ev)(v:S)(a:S)(K:Ev→Prop):Prop:=V0 v fun m=>match a with
 | .own l=>lim (l++m).length (K (env.set i (some (.own (l++m)))))
 | .X4 l=>XK (YQ m) fun ns=>lim (l++ns).length (W2 (ns.all ZR) (K (env.set i (some (.X4 (l++ns))))))
 |_=>No
def Adk(i:Nat)(env:Ev)(a:S)(K:Ev→Prop):Prop:=match a with
 | .own l=>XK (l.getLast?) fun d=>sI d fun _=>K (env.set i (some (.own l.dropLast)))
 |_=>No
def DZ(v:S)(K:Prop):Prop:=LZ v fun t=>match t with| .sink=>K|_=>No
def Aax(v:S)(K:Prop):Prop:=LZ v fun t=>match t with| .cur=>K|_=>No
def Aat(v:S)(K:Prop):Prop:=LZ v fun t=>match t with| .one=>K|_=>No
section
variable(C:Cx)
noncomputable def wpS:PS→Ev→St→(Ev→St→Prop)→(D→St→Prop)→Xp→Prop
 | .skip,env,st,N,R,X=>N env st
 | .seq a b,env,st,N,R,X=>wpS a env st (fun env st=>wpS b env st N R X) R X
 | .ex e,env,st,N,R,X=>Xu C e env st (fun v st=>cL v fun d=>W2 d.isNone (N env st)) X
 | .ret e,env,st,N,R,X=>Xu C e env st (fun v st=>cL v fun d=>R d st) X
 | .Zl e,env,st,N,R,X=>Xu C e (freeze env) st (fun v st=>cL v fun d=>R d st) X
 | .set i e,env,st,N,R,X=>Xu C e env st (fun v st=>cL v fun d=>N (env.set i (some (.d d))) st) X
 | .UI i es,env,st,N,R,X=>Wa C es env st (fun vs st=>NQ vs fun l=>lim l.length (W2 (noOwn i env) (N (env.set i (some (.own l))) st))) X
 | .RT i e,env,st,N,R,X=>Xu C e env st (fun v st=>V0 v fun l=>W2 (noOwn i env) (N (env.set i (some (.own l))) st)) X
 | .RO i,env,st,N,R,X=>W2 (noOwn i env) (N (env.set i (some (.X4 []))) st)
 | .Ur is e,env,st,N,R,X=>Xu C e env st (fun v st=>cL v fun d=>XK (bindTo env is d) fun env=>gd (nj 2 is.length) (N env st)) X
 | .VH is es,env,st,N,R,X=>Wa C es env st (fun vs st=>NQ vs fun l=>lim l.length (XK (bindTo env is (.tup l)) fun env=>gd (nj 2 is.length) (N env st))) X
 | .Gb i j es e,env,st,N,R,X=>Wa C es env st (fun vs st=>NQ vs fun l=>lim l.length (W2 (noOwn i env) (Xu C e env st (fun v st=>cL v fun d=>N ((env.set j (some (.d d))).set i (some (.own l))) st) X))) X
 | .HZ i j es es',env,st,N,R,X=>Wa C es env st (fun vs st=>NQ vs fun l=>lim l.length (W2 (noOwn i env&&noOwn j env) (Wa C es' env st (fun vs st=>NQ vs fun l'=>
   lim l'.length (W2 (!qp l.length l'.length) (N ((env.set j (some (.own l'))).set i (some (.own l))) st))) X))) X
 | .aug i op e,env,st,N,R,X=>VB env i fun v=>Xu C e env st (fun y st=>Gg op (ZK v fun a=>ZK y fun b=>N (env.set i (some (.d (.int (a+b))))) st)) X
 | .app i e,env,st,N,R,X=>VB env i fun a=>gd (ZO a) (Xu C e env st (fun v st=>Aas i env v a fun env=>N env st) X)
 | .ext i e,env,st,N,R,X=>VB env i fun a=>gd (ZO a) (Xu C e env st (fun v st=>Aaw i env v a fun env=>N env st) X)
 | .RU i,env,st,N,R,X=>VB env i fun a=>Adk i env a fun env=>N env st
 | .W3 i e,env,st,N,R,X=>VB env i fun a=>DZ a (XK st.sink fun _=>Xu C e env st (fun v st=>XK st.sink fun l=>ZK v fun x=>lim (l.length+1) (W2 (ZR x) (N env {st with sink:=some (l++[x])}))) X)
 | .Tq i e,env,st,N,R,X=>VB env i fun a=>DZ a (XK st.sink fun _=>Xu C e env st (fun v st=>XK st.sink fun l=>Aar v fun m=>lim (l++m).length (N env {st with sink:=some (l++m)})) X)
 | .ON i e,env,st,N,R,X=>VB env i fun a=>Aax a (Xu C e env st (fun v st=>XK st.cur fun c=>ZK v fun x=>N env {st with cur:=some (c.1,x,c.2.2)}) X)
 | .NR i e,env,st,N,R,X=>VB env i fun a=>Aat a (Xu C e env st (fun v st=>XK st.one fun _=>ZK v fun x=>N env {st with one:=some x}) X)
 | .ite t a b,env,st,N,R,X=>L6 C t env st (fun c st=>Ka c (wpS a env st N R X) (wpS b env st N R X) c) X
 | .wh t b,env,st,N,R,X=>NS (fun env st k=>L6 C t env st k X) (fun env st k=>wpS b env st k R X) 64 env st N
 | .VC is it b,env,st,N,R,X=>xS C it env st (fun items st=>XV (fun env st k=>wpS b env st k R X) is items env st N) X
 | .raise k es,env,st,N,R,X=>Wa C es env st (fun vs st=>on2 vs fun a b=>onStr a fun YY=>ZK b fun at_=>gd (jd k 2) (X k YY at_ st)) X
 | .bad,_,_,_,_,_=>No
end
noncomputable abbrev Uh(l:List Env):List Addr:=l.filterMap (·.frame)
abbrev NF(o:Obj):Prop:=∀vs,o.data≠.fields vs
structure Ir(F:List Addr)(h':Heap)(b:Addr)(o:Obj):Prop where
 keep:b∉F→h'.get? b=some o
 slot:∃sl,h'.get? b=some {o with slots:=sl}
def Vf(F:List Addr)(h h':Heap):Prop:=∀b o,h.get? b=some o→NF o→Ir F h' b o
theorem Ir.id{F:List Addr}{h:Heap}{b:Addr}{o:Obj}(e:h.get? b=some o):Ir F h b o:=⟨fun _=>e,o.slots,e⟩
theorem Vf.refl(F:List Addr)(h:Heap):Vf F h h:=fun b o e _=> .id e
theorem Vf.trans{F:List Addr}{h₁ h₂ h₃:Heap}(x:Vf F h₁ h₂)(y:Vf F h₂ h₃):Vf F h₁ h₃:=fun b o e hn=>
 ⟨fun hb=>(y b o ((x b o e hn).keep hb) hn).keep hb,(x b o e hn).slot.elim fun _ x2=>(y b _ x2 hn).slot.elim fun sl' y2=>⟨sl',y2⟩⟩
theorem Vf.S7{F:List Addr}{h h' B:Heap}(x:Vf F h h'){l:List Env}(hl:h.FunFrames B l):h'.FunFrames B l:=
 hl.of_keeps fun b o e hn=>(x b o e hn).slot.elim fun _ y=>⟨_,y,rfl⟩
noncomputable abbrev Ck:Str:="why"
noncomputable abbrev dAt:Str:="at"
noncomputable def YI:Nat→Addr
 |0=>154
 |_=>173
inductive Adr(B:Heap)(e:Addr)(vs:Array aa)(f:aa)(h:Heap):Prop
 |mk (T:Addr) (oT:Obj) (ts:Array aa) (t1:vs[1]?=some (.ref T)) (t2:B.get? T=none) (t3:T≠e) (t4:h.get? T=some oT) (t5:oT.data= .fields ts) (t6:ts[3]?=some f)
def dG(B:Heap)(e:Addr)(vs:Array aa)(fl:Option aa)(h:Heap):Prop:=
 match fl with
 |none=>vs[1]?=some .none
 |some f=>Adr B e vs f h
inductive Exc(B:Heap)(F:List Addr)(e:Addr)(k:Nat)(od:Obj)(d:Addr)(fl:Option aa)(h:Heap):Prop
 |mk (oe:Obj) (vs:Array aa) (he:h.get? e=some oe) (hc:oe.cls= .ref (YI k)) (hdi:oe.dict=some d) (hd:oe.data= .fields vs) (tb:dG B e vs fl h)
  (dict:h.get? d=some od) (nf:NF od) (out:B.get? e=none) (dF:d∉F)
section
variable{M:o8}{A:bz}{E:aa→ai→Prop}{s:ai}{B:Heap}{env:Env}{outer:List Env}{L e d:Addr}{k:Nat}{od:Obj}{fl:Option aa}{F:List Addr}{h h':Heap}{Q:Unit→ai→Prop}
theorem Exc.mono{G:List Addr}(x:Exc B F e k od d fl h)(hG:∀b∈G,b∈F):Exc B G e k od d fl h:=by cases x with|mk oe vs a1 a2 a3 a4 a5 a6 a7 a8 a9=>exact⟨oe,vs,a1,a2,a3,a4,a5,a6,a7,a8,fun hm=>a9 (hG d hm)⟩
theorem OQ{a b:Addr}{o x:Obj}{ws:Array aa}(ho:h.get? a=some o)(hd:o.data= .fields ws)(hb:h.get? b=some x)(hn:NF x):a≠b:=fun q=>hn ws (by rw[q,hb] at ho;exact bh ho▸hd)
theorem Zj{a b:Addr}{o:Obj}(ha:B.get? a=none)(hb:B.get? b=some o):a≠b:=fun q=>nomatch (ha.symm.trans (q.symm▸hb:B.get? a=some o))
theorem Xe{a:Addr}{o:Obj}{ws:Array aa}(ho:h.get? a=some o)(hd:o.data= .fields ws)(f:Obj→Obj):Vf F h (h.update a f):=fun b x e hn=>
 .id ((dm h f (OQ ho hd e hn)).trans e)
theorem Eb(o:Obj):Vf F h (h.push o):=fun b x e _=> .id (au o e)
theorem Iv(x:Heap.SlotsOnly F h h'):Vf F h h':=fun b o e _=>⟨fun hb=>(x.2.1 b hb).trans e,x.2.2 b o e⟩
theorem Kc(x:Heap.SlotsOnly F h h')(kb:B.StaysIn h)(hF:∀b∈F,B.get? b=none):B.StaysIn h':=fun b o hb=>(x.2.1 b fun hm=>Zj (hF b hm) hb rfl).trans (kb b o hb)
theorem Vg{a:Addr}{f:Obj→Obj}(kb:B.StaysIn h)(ha:B.get? a=none):B.StaysIn (h.update a f):=fun b o hb=>(dm h f (Zj ha hb)).trans (kb b o hb)
theorem Iu(o:Obj)(kb:B.StaysIn h):B.StaysIn (h.push o):=fun b x hb=>au o (kb b x hb)
theorem RV{α:Type}{a:Array α}{i:Nat}{x:α}(h:a[i]?=some x):i<a.size:=(qz.mp h).1
theorem dG.size{vs:Array aa}(tb:dG B e vs fl h):1<vs.size:=by
 cases fl with
 |none=>exact RV tb
 |some f=>cases tb with|mk _ _ _ t1=>exact RV t1
structure Gh(B:Heap)(F:List Addr)(e:Addr)(k:Nat)(od:Obj)(d:Addr)(fl:Option aa)(h h':Heap):Prop where
 exc:Exc B F e k od d fl h'
 XO:Vf F h h'
 stays:B.StaysIn h'
theorem OP{oe:Obj}{vs:Array aa}{head:aa}{had:Bool}(hfr:A.frames=some (env::outer))(hf:env.frame=some L)(hl:s.heap.FunFrames B (env::outer))(kb:B.StaysIn s.heap)
  (he:s.heap.get? e=some oe) (hc:oe.cls= .ref (YI k)) (hdi:oe.dict=some d) (hd:oe.data= .fields vs) (hsz:1<vs.size) (hod:s.heap.get? d=some od) (hnf:NF od) (hen:B.get? e=none)
  (hdF:d∉Uh (env::outer)) (h:∀h',Gh B (Uh (env::outer)) e k od d (some (rawInt L)) s.heap h'→Q () {s with heap:=h'}):
  wpAny M A (do let a ← frameOf env;let pl ← entryPlaceOf L had;let b ← A0f head a .none (rawInt L) .none pl;setField (.ref e) 1 b) Q E s:=by
 have hene:e∉Uh (env::outer):=fun hm=>(hl.mem hm).2.elim fun o ho=>OQ he hd ho.1 ho.2 rfl
 refine ak (wpAny_frameOf_fun (base:=B) hfr hl hf fun h₁ hs₁=>ak (wpAny_entryPlaceOf fun pl hpl=> ?_))
 unfold A0f newFields
 refine ak (qo ?_ (hpl.sizeOk5 _ _ _ _ _))
 generalize hT:({cls:= .type "traceback",dict:=none,data:= .fields ([head,.ref L,.none,rawInt L,.none]++(if pl.isEmpty then i8 6 ny else pl)).toArray}:Obj)=oT
 have he₁:h₁.get? e=some oe:=(hs₁.2.1 e hene).trans he
 have kb₁:=Kc hs₁ kb fun b hb=>(hl.mem hb).1
 have he₂:=au (h:=h₁) oT he₁
 have lt:=gq he₁
 refine wz he₂ hd hsz (h _ ⟨⟨_,_,jg _ he₂ (zv (sj hd _)),(Obj.cls_mapFields _ _).trans hc,?_,sj hd _,?_,?_,hnf,hen,hdF⟩,?_,?_⟩)
 ·rw[← hdi];obtain⟨c,dd,dt,sl⟩:=oe;cases hd;rfl
 ·exact⟨h₁.objs.size,oT,_,by simp [hsz],kb₁.fresh,Nat.ne_of_gt lt,(dm _ _ (ir lt)).trans (b9 h₁ (by subst hT;rfl)),by subst hT;rfl,by simp⟩
 ·exact(dm _ _ (OQ he hd hod hnf)).trans (au _ ((hs₁.2.1 d hdF).trans hod))
 ·exact((Iv hs₁).trans (Eb _)).trans (Xe he₂ hd _)
 ·exact Vg (Iu _ kb₁) hen
theorem Tt{α:Type}{c:Prop}[Decidable c]{a b:Sem α}{Q:α→ai→Prop}(hc:c)(h:wpAny M A a Q E s):wpAny M A (if c then a else b) Q E s:=by rw[if_pos hc];exact h
theorem NU{α:Type}{c:Prop}[Decidable c]{a b:Sem α}{Q:α→ai→Prop}(hc:¬c)(h:wpAny M A b Q E s):wpAny M A (if c then a else b) Q E s:=by rw[if_neg hc];exact h
theorem Q9(T:Addr):(gw T !=ny)=true:=rfl
theorem Cn:(rawInt L==rawInt L)=true:=by simp
theorem Co:¬((ny==rawInt L)=true):=by simp [rawInt]
theorem QA(hfr:A.frames=some (env::outer))(hf:env.frame=some L)(hl:s.heap.FunFrames B (env::outer))(kb:B.StaysIn s.heap)(x:Exc B (Uh (env::outer)) e k od d fl s.heap)
  (hflok:fl=none∨fl=some .none∨fl=some (rawInt L))
  (h:∀h',Gh B (Uh (env::outer)) e k od d (some (rawInt L)) s.heap h'→Q () {s with heap:=h'}):wpAny M A (n7 (.ref e) env) Q E s:=by
 unfold n7
 rw[hf]
 have x':=x
 cases x with
 |mk oe vs he hc hdi hd tb hod hnf hen hdF=>
 have hsz:=dG.size tb
 rcases hflok with rfl|rfl|rfl
 ·exact ak (pn he hd tb (NU (by decide) (OP hfr hf hl kb he hc hdi hd hsz hod hnf hen hdF h)))
 ·cases tb with
  |mk T oT ts t1 t2 t3 t4 t5 t6=>
  refine ak (pn he hd t1 (Tt (Q9 T) (ak (pn t4 t5 t6 (NU Co (ak (wz t4 t5 (RV t6) ?_)))))))
  have pu:Vf (Uh (env::outer)) s.heap (s.heap.update T (qj (·.setIfInBounds 3 ny))):=Xe t4 t5 _
  exact OP (s:={s with heap:=s.heap.update T (qj (·.setIfInBounds 3 ny))}) hfr hf (pu.S7 hl) (Vg kb t2) ((dm _ _ t3).trans he) hc hdi hd hsz
   ((dm _ _ (OQ t4 t5 hod hnf)).trans hod) hnf hen hdF fun h' y=>h h' ⟨y.exc,pu.trans y.XO,y.stays⟩
 ·cases tb with
  |mk T oT ts t1 t2 t3 t4 t5 t6=>
  exact ak (pn he hd t1 (Tt (Q9 T) (ak (pn t4 t5 t6 (Tt Cn (bg (h _ ⟨x',Vf.refl _ _,kb⟩)))))))
theorem Vh{f g:aa}{to:Option Addr}(hg:g=to.elim .none fun f=>rawInt f)(kb:B.StaysIn s.heap)(x:Exc B F e k od d (some f) s.heap)
  (h:∀h',Gh B F e k od d (some g) s.heap h'→Q () {s with heap:=h'}):wpAny M A (setFlight (.ref e) to) Q E s:=by
 subst hg
 cases x with
 |mk oe vs he hc hdi hd tb hod hnf hen hdF=>
 cases tb with
 |mk T oT ts t1 t2 t3 t4 t5 t6=>
 have h3:=RV t6
 unfold setFlight
 exact ak (pn he hd t1 (Tt (Q9 T) (wz t4 t5 h3 (h _ ⟨⟨oe,vs,(dm _ _ t3).trans he,hc,hdi,hd,⟨T,_,_,t1,t2,t3,jg _ t4 (zv (sj t5 _)),sj t5 _,by simp [h3]⟩,
  (dm _ _ (OQ t4 t5 hod hnf)).trans hod,hnf,hen,hdF⟩,Xe t4 t5 _,Vg kb t2⟩))))
theorem NV{f:aa}(hf:env.frame=some L)(kb:B.StaysIn s.heap)(x:Exc B F e k od d (some f) s.heap)
  (h:∀h',Gh B F e k od d (some (rawInt L)) s.heap h'→E (.ref e) {s with heap:=h'}):cameBackBy M A env E (.ref e) s:=by
 have x':=x
 cases x with
 |mk oe vs he hc hdi hd tb=>
 cases tb with
 |mk T oT ts t1=>
 unfold cameBackBy
 exact ak (pn he hd t1 (NU (fun q=>nomatch q) (Vh (to:=env.frame) (by rw[hf];rfl) kb x' h)))
theorem Ke(hfr:A.frames=some (env::outer))(hf:env.frame=some L)(hl:s.heap.FunFrames B (env::outer))(kb:B.StaysIn s.heap)(x:Exc B (Uh (env::outer)) e k od d fl s.heap)
  (hflok:fl=none∨fl=some .none∨fl=some (rawInt L))
  (h:∀h',Exc B (Uh outer) e k od d (some .none) h'→Vf (Uh (env::outer)) s.heap h'→B.StaysIn h'→Q () {s with heap:=h'}):wpAny M A (leaving env (.ref e)) Q E s:=by
 unfold leaving
 refine ak (QA hfr hf hl kb x hflok fun h₁ y=> ?_)
 refine Vh (s:={s with heap:=h₁}) (to:=none) rfl y.stays y.exc fun h₂ z=>h h₂ (z.exc.mono fun b hb=> ?_) (y.XO.trans z.XO) z.stays
 rw[Uh,rz,hf];exact nh _ hb
end
end
section
open PySem PySem.W
structure Ent where
 np:Nat
 ns:Nat
 p:PS
structure Bx(p:Prop):Prop where
 un:p
noncomputable def Cr:List (Int × D):=[((0),(.str "none")),((1),(.str "none")),((2),(.str "block")),((3),(.str "block")),((4),(.str "block")),((5),(.str "none")),((11),(.str "none")),((12),(.str "label")),((13),(.str "label")),((14),(.str "labels")),((15),(.str "none")),((16),(.str "func")),((17),(.str "indirect")),((18),(.str "func")),((19),(.str "indirect")),((26),(.str "none")),((27),(.str "none")),((28),(.str "kinds")),((32),(.str "local")),((33),(.str "local")),((34),(.str "local")),((35),(.str "global")),((36),(.str "global")),((37),(.str "table")),((38),(.str "table")),((63),(.str "memory")),((64),(.str "memory")),((65),(.str "i32")),((66),(.str "i64")),((208),(.str "refkind")),((209),(.str "none")),((210),(.str "func")),((64520),(.str "memory_init")),((64521),(.str "data")),((64522),(.str "two_memories")),((64523),(.str "memory")),((64524),(.str "table_init")),((64525),(.str "elem")),((64526),(.str "table_copy")),((64527),(.str "table")),((64528),(.str "table")),((64529),(.str "table"))]
noncomputable def Cq:List (Int × D):=[((40),(.tup [(.int (-1)),(.int (4)),(.int (0))])),((41),(.tup [(.int (-2)),(.int (8)),(.int (0))])),((44),(.tup [(.int (-1)),(.int (1)),(.int (1))])),((45),(.tup [(.int (-1)),(.int (1)),(.int (0))])),((46),(.tup [(.int (-1)),(.int (2)),(.int (1))])),((47),(.tup [(.int (-1)),(.int (2)),(.int (0))])),((48),(.tup [(.int (-2)),(.int (1)),(.int (1))])),((49),(.tup [(.int (-2)),(.int (1)),(.int (0))])),((50),(.tup [(.int (-2)),(.int (2)),(.int (1))])),((51),(.tup [(.int (-2)),(.int (2)),(.int (0))])),((52),(.tup [(.int (-2)),(.int (4)),(.int (1))])),((53),(.tup [(.int (-2)),(.int (4)),(.int (0))]))]
noncomputable def Ec:List (Int × D):=[((54),(.tup [(.int (-1)),(.int (4))])),((55),(.tup [(.int (-2)),(.int (8))])),((58),(.tup [(.int (-1)),(.int (1))])),((59),(.tup [(.int (-1)),(.int (2))])),((60),(.tup [(.int (-2)),(.int (1))])),((61),(.tup [(.int (-2)),(.int (2))])),((62),(.tup [(.int (-2)),(.int (4))]))]
noncomputable def GD(g:Nat):List (Int × D):=([Cr,Cq,Ec]:List (List (Int × D))).getD g []
noncomputable def QB(g:Nat)(i:Int):Option Bool:=some ((GD g).lookup i).isSome
noncomputable def texts:List (Str × List Int):=[("",[]),("a",[97]),("éb",[195,169,98]),("€",[226,130,172]),("𐍈",[240,144,141,136])]
noncomputable def Iw:List (Int × D):=[(0,.int 1),(1,.int 2),(2,.int 3)]
noncomputable def XQ(g:Nat)(d:D):Option D:=match g with
 |3=>d.toInt.bind fun i=>Iw.lookup i
 |4=>d.toStr.bind fun s=>(texts.lookup s).map fun l=> .list (l.map .int)
 |g=>d.toInt.bind fun i=>(GD g).lookup i
section
variable(F:List (Nat × Ent))
noncomputable def Kf:Nat→Nat→List S→St→(D→St→Prop)→Xp→Prop
 |0,_,_,_,_,_=>False
 |r+1,f,vs,st,Q,X=>XK (F.lookup f) fun e=>W2 (qp vs.length e.np&&vs.all fun v=> !ZO v)
   (wpS ⟨fun f vs st Q X=>Bx (Kf r f vs st Q X),QB,XQ⟩ e.p (vs.map some++i8 (e.ns - e.np) none) st (fun _ st=>Q .none st) Q X)
noncomputable abbrev Cp(r:Nat):Cx:=⟨fun f vs st Q X=>Bx (Kf F r f vs st Q X),QB,XQ⟩
end
end
section
open PySem PySem.W
set_option backward.match.sparseCases true
noncomputable abbrev PE.i(n:Int):PE:= .lit (.int n)
noncomputable abbrev PE.o(a:PE):PE:= .cons a .nil
noncomputable abbrev PS.o(a:PS):PS:= .seq a .skip
noncomputable def QO:PS:= .seq (.VC [1,2,3,4] (.o (.lit (.tup [(.tup [(.int 69),(.int 69),(.tup [(.int (-1))]),(.tup [(.int (-1))])]),(.tup [(.int 70),(.int 79),(.tup [(.int (-1)),(.int (-1))]),(.tup [(.int (-1))])]),(.tup [(.int 80),(.int 80),(.tup [(.int (-2))]),(.tup [(.int (-1))])]),(.tup [(.int 81),(.int 90),(.tup [(.int (-2)),(.int (-2))]),(.tup [(.int (-1))])]),(.tup [(.int 103),(.int 105),(.tup [(.int (-1))]),(.tup [(.int (-1))])]),(.tup [(.int 106),(.int 120),(.tup [(.int (-1)),(.int (-1))]),(.tup [(.int (-1))])]),(.tup [(.int 121),(.int 123),(.tup [(.int (-2))]),(.tup [(.int (-2))])]),(.tup [(.int 124),(.int 138),(.tup [(.int (-2)),(.int (-2))]),(.tup [(.int (-2))])]),(.tup [(.int 167),(.int 167),(.tup [(.int (-2))]),(.tup [(.int (-1))])]),(.tup [(.int 172),(.int 173),(.tup [(.int (-1))]),(.tup [(.int (-2))])]),(.tup [(.int 192),(.int 193),(.tup [(.int (-1))]),(.tup [(.int (-1))])]),(.tup [(.int 194),(.int 196),(.tup [(.int (-2))]),(.tup [(.int (-2))])])]))) (.o (.ite (.S6 .LtE .LtE (.var 1) (.var 0) (.var 2)) (.o (.Zl (.tup (.cons (.var 3) (.o (.var 4)))))) .skip))) (.o (.Zl (.lit .none)))
noncomputable def I3:PS:= .seq (.ite (.Uq 0 (.var 0)) (.o (.Zl (.XF 0 (.var 0)))) .skip) (.seq (.ite (.or (.Uq 1 (.var 0)) (.Uq 2 (.var 0))) (.o (.Zl (.lit (.str "memarg")))) .skip) (.o (.Zl (.ite (.cmp .Is (.call 98 (.o (.var 0))) (.lit .none)) (.lit .none) (.lit (.str "none"))))))
noncomputable def Kl:PS:= .o (.Zl (.cmp .In (.var 0) (.tup (.cons (.i 2) (.cons (.i 3) (.o (.i 4)))))))
noncomputable def QK:PS:= .seq (.ite (.cmp .Eq (.var 0) (.i 253)) (.o (.Zl (.lit (.bool true)))) .skip) (.o (.Zl (.blt 8 (.o (.comp (.S6 .LtE .LtE (.var 1) (.var 0) (.var 2)) [1,2] (.o (.lit (.list [(.tup [(.int 42),(.int 43)]),(.tup [(.int 56),(.int 57)]),(.tup [(.int 67),(.int 68)]),(.tup [(.int 91),(.int 102)]),(.tup [(.int 139),(.int 166)]),(.tup [(.int 168),(.int 171)]),(.tup [(.int 174),(.int 191)]),(.tup [(.int 64512),(.int 64519)])]))) .nil)))))
noncomputable def Kn:PS:= .o (.ex (.Zv 0 0 (.o (.bin .BitAnd (.var 1) (.i 127)))))
noncomputable def TJ:PS:= .seq (.ex (.Zv 0 14 (.o (.blt 0 (.o (.var 1)))))) (.o (.VC [2] (.o (.var 1)) (.o (.ex (.call 278 (.cons (.var 0) (.o (.var 2))))))))
noncomputable def O3:PS:= .seq (.ex (.Zv 0 0 (.o (.ite (.cmp .Is (.var 2) (.lit .none)) (.i 0) (.i 1))))) (.seq (.ex (.Zv 0 4 (.o (.var 1)))) (.o (.ite (.cmp .IsNot (.var 2) (.lit .none)) (.o (.ex (.Zv 0 4 (.o (.var 2))))) .skip)))
noncomputable def S9:PS:= .seq (.Ur [2,3] (.var 1)) (.seq (.ex (.Zv 0 0 (.o (.i 96)))) (.seq (.ex (.call 285 (.cons (.var 0) (.o (.var 2))))) (.o (.ex (.call 285 (.cons (.var 0) (.o (.var 3))))))))
noncomputable def Tz:PS:= .seq (.Ur [2,3,4] (.var 1)) (.seq (.ex (.call 278 (.cons (.var 0) (.o (.var 2))))) (.o (.ex (.call 292 (.cons (.var 0) (.cons (.var 3) (.o (.var 4))))))))
noncomputable def UM:PS:= .seq (.Ur [2,3] (.var 1)) (.o (.ex (.call 292 (.cons (.var 0) (.cons (.var 2) (.o (.var 3)))))))
noncomputable def UJ:PS:= .seq (.Ur [2,3] (.var 1)) (.seq (.ex (.call 278 (.cons (.var 0) (.o (.var 2))))) (.o (.ex (.Zv 0 0 (.o (.var 3))))))
noncomputable def O1:PS:= .seq (.ex (.Zv 0 11 (.o (.attr (.var 1) 9)))) (.seq (.ex (.Zv 0 11 (.o (.attr (.var 1) 10)))) (.seq (.ex (.Zv 0 0 (.o (.attr (.var 1) 11)))) (.o (.ite (.cmp .Eq (.attr (.var 1) 11) (.i 0)) (.o (.ex (.Zv 0 4 (.o (.attr (.var 1) 12))))) (.o (.ite (.cmp .Eq (.attr (.var 1) 11) (.i 1)) (.o (.ex (.call 306 (.cons (.var 0) (.o (.attr (.var 1) 12)))))) (.o (.ite (.cmp .Eq (.attr (.var 1) 11) (.i 2)) (.o (.ex (.call 313 (.cons (.var 0) (.o (.attr (.var 1) 12)))))) (.o (.ite (.cmp .Eq (.attr (.var 1) 11) (.i 3)) (.o (.ex (.call 320 (.cons (.var 0) (.o (.attr (.var 1) 12)))))) (.o .bad)))))))))))
noncomputable def O0:PS:= .seq (.Ur [2,3,4] (.var 1)) (.seq (.ex (.Zv 0 11 (.o (.var 2)))) (.seq (.ex (.Zv 0 0 (.o (.var 3)))) (.o (.ex (.Zv 0 4 (.o (.var 4)))))))
noncomputable def Tu:PS:= .o (.ite (.cmp .Lt (.var 1) (.i 0)) (.o (.ex (.call 278 (.cons (.var 0) (.o (.var 1)))))) (.o (.ex (.Zv 0 5 (.o (.var 1))))))
noncomputable def Kg:PS:= .o (.ite (.cmp .Lt (.var 1) (.i 64512)) (.o (.ex (.Zv 0 0 (.o (.var 1))))) (.seq (.ex (.Zv 0 0 (.o (.i 252)))) (.o (.ex (.Zv 0 4 (.o (.bin .Sub (.var 1) (.i 64512))))))))
noncomputable def VI:PS:= .o (.VC [2] (.o (.var 1)) (.o (.ex (.Zv 0 4 (.o (.var 2))))))
noncomputable def TG:PS:= .o (.ite (.cmp .Eq (.var 1) (.lit (.str "block"))) (.o (.ex (.call 341 (.cons (.var 0) (.o (.sub (.var 2) (.i 0))))))) (.o (.ite (.cmp .In (.var 1) (.tup (.cons (.lit (.str "i32")) (.o (.lit (.str "i64")))))) (.o (.ex (.Zv 0 5 (.o (.sub (.var 2) (.i 0)))))) (.o (.ite (.cmp .Eq (.var 1) (.lit (.str "refkind"))) (.o (.ex (.call 278 (.cons (.var 0) (.o (.sub (.var 2) (.i 0))))))) (.o (.ite (.cmp .Eq (.var 1) (.lit (.str "kinds"))) (.o (.ex (.call 285 (.cons (.var 0) (.o (.var 2)))))) (.o (.ite (.cmp .Eq (.var 1) (.lit (.str "labels"))) (.seq (.ex (.Zv 0 14 (.o (.bin .Sub (.blt 0 (.o (.var 2))) (.i 1))))) (.o (.ex (.call 355 (.cons (.var 0) (.o (.var 2))))))) (.seq (.ex (.call 355 (.cons (.var 0) (.o (.var 2))))) (.seq (.ite (.cmp .In (.var 1) (.tup (.cons (.lit (.str "memory")) (.cons (.lit (.str "memory_init")) (.o (.lit (.str "two_memories"))))))) (.o (.ex (.Zv 0 0 (.o (.i 0))))) .skip) (.o (.ite (.cmp .Eq (.var 1) (.lit (.str "two_memories"))) (.o (.ex (.Zv 0 0 (.o (.i 0))))) .skip)))))))))))))
noncomputable def UN:PS:= .seq (.set 2 (.sub (.var 1) (.i 0))) (.seq (.set 3 (.call 105 (.o (.var 2)))) (.seq (.ite (.cmp .Is (.var 3) (.lit .none)) (.o .bad) .skip) (.seq (.ex (.call 348 (.cons (.var 0) (.o (.var 2))))) (.o (.ex (.call 362 (.cons (.var 0) (.cons (.var 3) (.o (.lV (.var 1) (.o (.i 1)) .nil))))))))))
noncomputable def U2:PS:= .o (.VC [2] (.o (.var 1)) (.o (.ex (.call 369 (.cons (.var 0) (.o (.var 2)))))))
noncomputable def SG:PS:= .seq (.ite (.and (.cmp .Eq (.blt 0 (.o (.var 0))) (.i 2)) (.and (.cmp .Eq (.sub (.sub (.var 0) (.i 0)) (.i 0)) (.i 210)) (.cmp .Eq (.sub (.var 0) (.i 1)) (.tup (.o (.i 11)))))) (.o (.Zl (.sub (.sub (.var 0) (.i 0)) (.i 1)))) .skip) (.o (.Zl (.lit .none)))
noncomputable def ZS:PS:= .seq (.set 2 (.comp (.call 383 (.o (.var 7))) [7] (.o (.attr (.var 1) 7)) .nil)) (.seq (.set 3 (.or (.cmp .NotEq (.attr (.var 1) 6) (.i (-16))) (.cmp .In (.lit .none) (.var 2)))) (.seq (.set 4 (.and (.cmp .Eq (.attr (.var 1) 3) (.i 1)) (.and (.cmp .Eq (.attr (.var 1) 4) (.i 0)) (.cmp .Eq (.attr (.var 1) 6) (.i (-16)))))) (.seq (.set 5 (.ite (.var 4) (.i 0) (.XF 3 (.attr (.var 1) 3)))) (.seq (.ex (.Zv 0 4 (.o (.ite (.var 3) (.bin .Add (.var 5) (.i 4)) (.var 5))))) (.seq (.ite (.cmp .Eq (.var 5) (.i 2)) (.o (.ex (.Zv 0 4 (.o (.attr (.var 1) 4))))) .skip) (.seq (.ite (.cmp .Eq (.attr (.var 1) 3) (.i 1)) (.o (.ex (.call 376 (.cons (.var 0) (.o (.attr (.var 1) 5)))))) .skip) (.seq (.ite (.cmp .NotEq (.var 5) (.i 0)) (.o (.ite (.var 3) (.o (.ex (.call 278 (.cons (.var 0) (.o (.attr (.var 1) 6)))))) (.o (.ex (.Zv 0 0 (.o (.i 0))))))) .skip) (.seq (.ex (.Zv 0 14 (.o (.blt 0 (.o (.attr (.var 1) 7)))))) (.o (.ite (.var 3) (.o (.VC [6] (.o (.attr (.var 1) 7)) (.o (.ex (.call 376 (.cons (.var 0) (.o (.var 6)))))))) (.o (.ex (.call 355 (.cons (.var 0) (.o (.var 2))))))))))))))))
noncomputable def Kr:PS:= .seq (.ite (.cmp .Eq (.attr (.var 1) 3) (.i 0)) (.o (.ex (.Zv 0 4 (.o (.i 1))))) (.o (.ite (.cmp .Eq (.attr (.var 1) 8) (.i 0)) (.o (.ex (.Zv 0 4 (.o (.i 0))))) (.seq (.ex (.Zv 0 4 (.o (.i 2)))) (.o (.ex (.Zv 0 4 (.o (.attr (.var 1) 8))))))))) (.seq (.ite (.cmp .Eq (.attr (.var 1) 3) (.i 1)) (.o (.ex (.call 376 (.cons (.var 0) (.o (.attr (.var 1) 5)))))) .skip) (.seq (.ex (.Zv 0 14 (.o (.blt 0 (.o (.attr (.var 1) 0)))))) (.o (.ex (.Zv 0 13 (.o (.attr (.var 1) 0)))))))
noncomputable def QL:PS:= .seq (.UI 2 .nil) (.seq (.VC [3] (.blt 1 (.o (.Zv 0 6 .nil))) (.o (.app 2 (.Gd 1 (.o (.var 0)))))) (.o (.Zl (.var 2))))
noncomputable def Kh:PS:= .o (.Zl (.Zv 0 6 .nil))
noncomputable def Ml:PS:= .seq (.ite (.cmp .In (.var 0) (.lit (.tup [(.int (-3)),(.int (-4))]))) (.o (.raise 1 (.cons (.lit (.str "floats are left out")) (.o (.var 1))))) .skip) (.o (.ite (.cmp .Eq (.var 0) (.i (-5))) (.o (.raise 1 (.cons (.lit (.str "vectors are left out")) (.o (.var 1))))) .skip))
noncomputable def Mf:PS:= .seq (.set 2 (.attr (.var 0) 1)) (.seq (.set 3 (.Zv 0 7 .nil)) (.seq (.ex (.call 418 (.cons (.var 3) (.o (.var 2))))) (.seq (.ite (.cmp .NotIn (.var 3) (.tup (.cons (.i (-1)) (.cons (.i (-2)) (.cons (.i (-16)) (.o (.i (-17)))))))) (.o (.raise 0 (.cons (.var 1) (.o (.var 2))))) .skip) (.o (.Zl (.var 3))))))
noncomputable def I0:PS:= .o (.Zl (.call 425 (.cons (.var 0) (.o (.lit (.str "malformed value type"))))))
noncomputable def QJ:PS:= .seq (.set 1 (.attr (.var 0) 1)) (.seq (.set 2 (.Zv 0 7 .nil)) (.seq (.ite (.cmp .NotIn (.var 2) (.tup (.cons (.i (-16)) (.o (.i (-17)))))) (.o (.raise 0 (.cons (.lit (.str "malformed reference type")) (.o (.var 1))))) .skip) (.o (.Zl (.var 2)))))
noncomputable def RC:PS:= .seq (.set 1 (.attr (.var 0) 1)) (.seq (.ite (.cmp .NotEq (.Zv 0 0 .nil) (.i 96)) (.o (.raise 0 (.cons (.lit (.str "malformed function type")) (.o (.var 1))))) .skip) (.seq (.set 2 (.blt 2 (.o (.call 404 (.cons (.var 0) (.o (.lit (.fn 432)))))))) (.seq (.set 3 (.blt 2 (.o (.call 404 (.cons (.var 0) (.o (.lit (.fn 432)))))))) (.o (.Zl (.tup (.cons (.var 2) (.o (.var 3)))))))))
noncomputable def NW:PS:= .seq (.set 1 (.attr (.var 0) 1)) (.seq (.set 2 (.Zv 0 0 .nil)) (.seq (.ite (.cmp .Gt (.var 2) (.i 1)) (.o (.raise 0 (.cons (.lit (.str "malformed limits flags")) (.o (.var 1))))) .skip) (.seq (.set 3 (.Zv 0 6 .nil)) (.o (.Zl (.tup (.cons (.var 3) (.o (.ite (.cmp .Eq (.var 2) (.i 1)) (.Zv 0 6 .nil) (.lit .none))))))))))
noncomputable def SH:PS:= .seq (.set 1 (.call 439 (.o (.var 0)))) (.seq (.Ur [2,3] (.call 453 (.o (.var 0)))) (.o (.Zl (.tup (.cons (.var 1) (.cons (.var 2) (.o (.var 3))))))))
noncomputable def TA:PS:= .o (.Zl (.call 453 (.o (.var 0))))
noncomputable def TH:PS:= .seq (.set 1 (.call 432 (.o (.var 0)))) (.seq (.set 2 (.attr (.var 0) 1)) (.seq (.set 3 (.Zv 0 0 .nil)) (.seq (.ite (.cmp .Gt (.var 3) (.i 1)) (.o (.raise 0 (.cons (.lit (.str "malformed mutability")) (.o (.var 2))))) .skip) (.o (.Zl (.tup (.cons (.var 1) (.o (.var 3)))))))))
noncomputable def Ma:PS:= .seq (.set 1 (.Zv 0 11 .nil)) (.seq (.set 2 (.Zv 0 11 .nil)) (.seq (.set 3 (.attr (.var 0) 1)) (.seq (.set 4 (.Zv 0 0 .nil)) (.seq (.ite (.cmp .Eq (.var 4) (.i 0)) (.o (.Zl (.inst 2 (.cons (.var 1) (.cons (.var 2) (.cons (.var 4) (.o (.Zv 0 6 .nil)))))))) .skip) (.seq (.ite (.cmp .Eq (.var 4) (.i 1)) (.o (.Zl (.inst 2 (.cons (.var 1) (.cons (.var 2) (.cons (.var 4) (.o (.call 460 (.o (.var 0)))))))))) .skip) (.seq (.ite (.cmp .Eq (.var 4) (.i 2)) (.o (.Zl (.inst 2 (.cons (.var 1) (.cons (.var 2) (.cons (.var 4) (.o (.call 467 (.o (.var 0)))))))))) .skip) (.seq (.ite (.cmp .Eq (.var 4) (.i 3)) (.o (.Zl (.inst 2 (.cons (.var 1) (.cons (.var 2) (.cons (.var 4) (.o (.call 474 (.o (.var 0)))))))))) .skip) (.o (.raise 0 (.cons (.lit (.str "malformed \x69mport kind")) (.o (.var 3))))))))))))
noncomputable def Mc:PS:= .seq (.set 1 (.Zv 0 11 .nil)) (.seq (.set 2 (.attr (.var 0) 1)) (.seq (.set 3 (.Zv 0 0 .nil)) (.seq (.ite (.cmp .Gt (.var 3) (.i 3)) (.o (.raise 0 (.cons (.lit (.str "malformed export kind")) (.o (.var 2))))) .skip) (.o (.Zl (.tup (.cons (.var 1) (.cons (.var 3) (.o (.Zv 0 6 .nil))))))))))
noncomputable def SD:PS:= .seq (.set 1 (.attr (.var 0) 1)) (.seq (.ite (.cmp .Eq (.Zv 0 1 .nil) (.i 64)) (.seq (.ex (.Zv 0 0 .nil)) (.o (.Zl (.i (-64))))) .skip) (.seq (.ite (.cmp .Eq (.bin .BitAnd (.Zv 0 1 .nil) (.i 192)) (.i 64)) (.o (.Zl (.call 425 (.cons (.var 0) (.o (.lit (.str "malformed block type"))))))) .skip) (.seq (.set 2 (.Zv 0 9 .nil)) (.seq (.ite (.cmp .Lt (.var 2) (.i 0)) (.o (.raise 0 (.cons (.lit (.str "integer representation too long")) (.o (.var 1))))) .skip) (.o (.Zl (.var 2)))))))
noncomputable def Md:PS:= .seq (.set 1 (.attr (.var 0) 1)) (.o (.ite (.cmp .NotEq (.Zv 0 0 .nil) (.i 0)) (.o (.raise 0 (.cons (.lit (.str "zero byte expected")) (.o (.var 1))))) .skip))
noncomputable def Mb:PS:= .seq (.set 1 (.attr (.var 0) 1)) (.seq (.set 2 (.Zv 0 6 .nil)) (.seq (.ite (.cmp .Gt (.var 2) (.i 31)) (.o (.raise 0 (.cons (.lit (.str "malformed memop flags")) (.o (.var 1))))) .skip) (.o (.Zl (.tup (.cons (.var 2) (.o (.Zv 0 6 .nil))))))))
noncomputable def Mi:PS:= .seq (.set 1 (.call 404 (.cons (.var 0) (.o (.lit (.fn 411)))))) (.seq (.app 1 (.Zv 0 6 .nil)) (.o (.Zl (.blt 2 (.o (.var 1))))))
noncomputable def Vi:PS:= .seq (.ite (.cmp .Eq (.var 1) (.lit (.str "none"))) (.o (.Zl (.tup .nil))) .skip) (.seq (.ite (.cmp .In (.var 1) (.tup (.cons (.lit (.str "label")) (.cons (.lit (.str "func")) (.cons (.lit (.str "local")) (.cons (.lit (.str "global")) (.cons (.lit (.str "table")) (.cons (.lit (.str "data")) (.o (.lit (.str "elem"))))))))))) (.o (.Zl (.tup (.o (.Zv 0 6 .nil))))) .skip) (.seq (.ite (.cmp .Eq (.var 1) (.lit (.str "block"))) (.o (.Zl (.tup (.o (.call 495 (.o (.var 0))))))) .skip) (.seq (.ite (.cmp .Eq (.var 1) (.lit (.str "i32"))) (.o (.Zl (.tup (.o (.Zv 0 8 .nil))))) .skip) (.seq (.ite (.cmp .Eq (.var 1) (.lit (.str "i64"))) (.o (.Zl (.tup (.o (.Zv 0 10 .nil))))) .skip) (.seq (.ite (.cmp .Eq (.var 1) (.lit (.str "memarg"))) (.o (.Zl (.call 509 (.o (.var 0))))) .skip) (.seq (.ite (.cmp .Eq (.var 1) (.lit (.str "refkind"))) (.o (.Zl (.tup (.o (.call 439 (.o (.var 0))))))) .skip) (.o (.Zl (.lit .none)))))))))
noncomputable def S8:PS:= .seq (.set 2 (.call 523 (.cons (.var 0) (.o (.var 1))))) (.seq (.ite (.cmp .IsNot (.var 2) (.lit .none)) (.o (.Zl (.var 2))) .skip) (.seq (.ite (.cmp .Eq (.var 1) (.lit (.str "labels"))) (.o (.Zl (.call 516 (.o (.var 0))))) .skip) (.seq (.ite (.cmp .Eq (.var 1) (.lit (.str "kinds"))) (.o (.Zl (.blt 2 (.o (.call 404 (.cons (.var 0) (.o (.lit (.fn 432))))))))) .skip) (.seq (.ite (.cmp .In (.var 1) (.tup (.cons (.lit (.str "indirect")) (.cons (.lit (.str "table_init")) (.o (.lit (.str "table_copy"))))))) (.seq (.set 3 (.Zv 0 6 .nil)) (.o (.Zl (.tup (.cons (.var 3) (.o (.Zv 0 6 .nil))))))) .skip) (.seq (.ite (.cmp .Eq (.var 1) (.lit (.str "memory_init"))) (.seq (.set 3 (.Zv 0 6 .nil)) (.seq (.ex (.call 502 (.o (.var 0)))) (.o (.Zl (.tup (.o (.var 3))))))) .skip) (.seq (.ex (.call 502 (.o (.var 0)))) (.seq (.ite (.cmp .Eq (.var 1) (.lit (.str "two_memories"))) (.o (.ex (.call 502 (.o (.var 0))))) .skip) (.o (.Zl (.tup .nil))))))))))
noncomputable def I4:PS:= .seq (.set 1 (.attr (.var 0) 1)) (.seq (.set 2 (.Zv 0 0 .nil)) (.seq (.ite (.cmp .Eq (.var 2) (.i 252)) (.seq (.set 3 (.Zv 0 6 .nil)) (.seq (.ite (.cmp .Gt (.var 3) (.i 17)) (.o (.raise 0 (.cons (.lit (.str "illegal opcode")) (.o (.var 1))))) .skip) (.o (.set 2 (.bin .Add (.i 64512) (.var 3)))))) .skip) (.seq (.ite (.call 117 (.o (.var 2))) (.o (.raise 1 (.cons (.lit (.str "an instruction that is left out")) (.o (.var 1))))) .skip) (.seq (.ite (.cmp .Is (.call 105 (.o (.var 2))) (.lit .none)) (.o (.raise 0 (.cons (.lit (.str "illegal opcode")) (.o (.var 1))))) .skip) (.o (.Zl (.var 2)))))))
noncomputable def UL:PS:= .seq (.HZ 2 3 .nil (.o (.i 0))) (.seq (.wh (.cmp .NotEq (.var 3) (.lst .nil)) (.seq (.set 4 (.attr (.var 0) 1)) (.seq (.set 5 (.call 537 (.o (.var 0)))) (.o (.ite (.cmp .Eq (.var 5) (.i 11)) (.seq (.RU 3) (.o (.app 2 (.tup (.o (.i 11)))))) (.o (.ite (.cmp .Eq (.var 5) (.i 5)) (.seq (.ite (.cmp .NotEq (.sub (.var 3) (.neg (.i 1))) (.i 4)) (.o (.raise 0 (.cons (.lit (.str "END opcode expected")) (.o (.var 4))))) .skip) (.seq .bad (.o (.app 2 (.tup (.o (.i 5))))))) (.seq (.ite (.and (.cmp .In (.var 5) (.lit (.tup [(.int 64520),(.int 64521)]))) (.not (.var 1))) (.o (.raise 0 (.cons (.lit (.str "data count section required")) (.o (.var 4))))) .skip) (.seq (.app 2 (.bin .Add (.tup (.o (.var 5))) (.call 530 (.cons (.var 0) (.o (.call 105 (.o (.var 5)))))))) (.o (.ite (.call 112 (.o (.var 5))) (.o (.app 3 (.var 5))) .skip))))))))))) (.o (.Zl (.var 2))))
noncomputable def QI:PS:= .o (.Zl (.call 544 (.cons (.var 0) (.o (.lit (.bool true))))))
noncomputable def RE:PS:= .seq (.set 1 (.attr (.var 0) 1)) (.seq (.ite (.cmp .NotEq (.Zv 0 0 .nil) (.i 0)) (.o (.raise 0 (.cons (.lit (.str "malformed element kind")) (.o (.var 1))))) .skip) (.o (.Zl (.i (-16)))))
noncomputable def Vj:PS:= .seq (.set 1 (.attr (.var 0) 1)) (.seq (.set 2 (.Zv 0 6 .nil)) (.seq (.ite (.cmp .Gt (.var 2) (.i 7)) (.o (.raise 0 (.cons (.lit (.str "malformed elements segment kind")) (.o (.var 1))))) .skip) (.seq (.VH [3,4] (.cons (.bin .BitAnd (.var 2) (.i 3)) (.o (.cmp .Gt (.var 2) (.i 3))))) (.seq (.set 5 (.sub (.tup (.cons (.i 1) (.cons (.i 0) (.cons (.i 1) (.o (.i 2)))))) (.var 3))) (.seq (.VH [6,7,8] (.cons (.i 0) (.cons (.lit .none) (.o (.i (-16)))))) (.seq (.ite (.cmp .Eq (.var 3) (.i 2)) (.o (.set 6 (.Zv 0 6 .nil))) .skip) (.seq (.ite (.cmp .Eq (.var 5) (.i 1)) (.o (.set 7 (.call 551 (.o (.var 0))))) .skip) (.seq (.ite (.cmp .NotEq (.var 3) (.i 0)) (.o (.set 8 (.ite (.var 4) (.call 439 (.o (.var 0))) (.call 558 (.o (.var 0)))))) .skip) (.seq (.ite (.var 4) (.o (.Zl (.inst 0 (.cons (.var 5) (.cons (.var 6) (.cons (.var 7) (.cons (.var 8) (.o (.call 404 (.cons (.var 0) (.o (.lit (.fn 551))))))))))))) .skip) (.seq (.set 9 (.comp (.lst (.cons (.tup (.cons (.i 210) (.o (.var 10)))) (.o (.tup (.o (.i 11)))))) [10] (.o (.call 404 (.cons (.var 0) (.o (.lit (.fn 411)))))) .nil)) (.o (.Zl (.inst 0 (.cons (.var 5) (.cons (.var 6) (.cons (.var 7) (.cons (.var 8) (.o (.var 9)))))))))))))))))))
noncomputable def Iz:PS:= .seq (.set 1 (.attr (.var 0) 1)) (.seq (.set 2 (.Zv 0 6 .nil)) (.seq (.ite (.cmp .Gt (.var 2) (.i 2)) (.o (.raise 0 (.cons (.lit (.str "malformed data segment kind")) (.o (.var 1))))) .skip) (.seq (.set 3 (.ite (.cmp .Eq (.var 2) (.i 2)) (.Zv 0 6 .nil) (.i 0))) (.seq (.set 4 (.ite (.cmp .Eq (.var 2) (.i 1)) (.lit .none) (.call 551 (.o (.var 0))))) (.seq (.set 5 (.Zv 0 2 (.o (.Zv 0 6 .nil)))) (.o (.Zl (.inst 1 (.cons (.ite (.cmp .Eq (.var 2) (.i 1)) (.i 0) (.i 1)) (.cons (.var 3) (.cons (.var 4) (.o (.var 5)))))))))))))
noncomputable def QM:PS:= .o (.Zl (.bin .Sub (.attr (.var 0) 2) (.attr (.var 0) 1)))
noncomputable def QT:PS:= .seq (.ite (.cmp .GtE (.attr (.var 0) 1) (.attr (.var 0) 2)) (.o (.raise 0 (.cons (.lit (.str "unexpected end")) (.o (.attr (.var 0) 1))))) .skip) (.o (.Zl (.sub (.attr (.var 0) 0) (.attr (.var 0) 1))))
noncomputable def RD:PS:= .seq (.set 1 (.Zv 0 1 .nil)) (.seq (.ON 0 (.bin .Add (.attr (.var 0) 1) (.i 1))) (.o (.Zl (.var 1))))
noncomputable def QH:PS:= .seq (.ite (.cmp .Gt (.var 1) (.Zv 0 12 .nil)) (.o (.raise 0 (.cons (.lit (.str "unexpected end")) (.o (.attr (.var 0) 2))))) .skip) (.seq (.set 2 (.blt 4 (.o (.lV (.attr (.var 0) 0) (.o (.attr (.var 0) 1)) (.o (.bin .Add (.attr (.var 0) 1) (.var 1))))))) (.seq (.ON 0 (.bin .Add (.attr (.var 0) 1) (.var 1))) (.o (.Zl (.var 2)))))
noncomputable def QF:PS:= .seq (.ite (.cmp .Gt (.var 1) (.Zv 0 12 .nil)) (.o (.raise 0 (.cons (.lit (.str "length out of bounds")) (.o (.attr (.var 0) 1))))) .skip) (.seq (.set 2 .bad) (.seq (.ON 0 (.bin .Add (.attr (.var 0) 1) (.var 1))) (.o (.Zl (.var 2)))))
noncomputable def Wh:PS:= .seq (.VH [2,3,4] (.cons (.i 0) (.cons (.i 0) (.o (.attr (.var 0) 1))))) (.o (.wh (.lit (.bool true)) (.seq (.set 5 (.Zv 0 0 .nil)) (.seq (.set 6 (.bin .Sub (.var 1) (.var 3))) (.seq (.ite (.and (.cmp .Lt (.var 6) (.i 7)) (.cmp .NotEq (.bin .RShift (.bin .BitAnd (.var 5) (.i 127)) (.var 6)) (.i 0))) (.o (.raise 0 (.cons (.lit (.str "integer too large")) (.o (.var 4))))) .skip) (.seq (.ite (.and (.cmp .LtE (.var 6) (.i 7)) (.cmp .GtE (.var 5) (.i 128))) (.o (.raise 0 (.cons (.lit (.str "integer representation too long")) (.o (.var 4))))) .skip) (.seq (.set 2 (.bin .Add (.var 2) (.bin .LShift (.bin .BitAnd (.var 5) (.i 127)) (.var 3)))) (.seq (.ite (.cmp .Lt (.var 5) (.i 128)) (.o (.Zl (.var 2))) .skip) (.o (.set 3 (.bin .Add (.var 3) (.i 7))))))))))))
noncomputable def WD:PS:= .seq (.VH [2,3,4] (.cons (.i 0) (.cons (.i 0) (.o (.attr (.var 0) 1))))) (.o (.wh (.lit (.bool true)) (.seq (.set 5 (.Zv 0 0 .nil)) (.seq (.set 6 (.bin .Sub (.var 1) (.var 3))) (.seq (.ite (.and (.cmp .Lt (.var 6) (.i 7)) (.cmp .NotIn (.bin .RShift (.bin .BitAnd (.var 5) (.i 127)) (.bin .Sub (.var 6) (.i 1))) (.tup (.cons (.i 0) (.o (.bin .RShift (.i 127) (.bin .Sub (.var 6) (.i 1)))))))) (.o (.raise 0 (.cons (.lit (.str "integer too large")) (.o (.var 4))))) .skip) (.seq (.ite (.and (.cmp .LtE (.var 6) (.i 7)) (.cmp .GtE (.var 5) (.i 128))) (.o (.raise 0 (.cons (.lit (.str "integer representation too long")) (.o (.var 4))))) .skip) (.seq (.set 2 (.bin .Add (.var 2) (.bin .LShift (.bin .BitAnd (.var 5) (.i 127)) (.var 3)))) (.seq (.set 3 (.bin .Add (.var 3) (.i 7))) (.o (.ite (.cmp .Lt (.var 5) (.i 128)) (.o (.Zl (.ite (.bin .BitAnd (.var 5) (.i 64)) (.bin .Sub (.var 2) (.bin .LShift (.i 1) (.var 3))) (.var 2)))) .skip))))))))))
noncomputable def Oz:PS:= .o (.Zl (.Zv 0 4 (.o (.i 32))))
noncomputable def Mk:PS:= .o (.Zl (.Zv 0 5 (.o (.i 7))))
noncomputable def Ox:PS:= .o (.Zl (.Zv 0 5 (.o (.i 32))))
noncomputable def Ov:PS:= .o (.Zl (.Zv 0 5 (.o (.i 33))))
noncomputable def O2:PS:= .o (.Zl (.Zv 0 5 (.o (.i 64))))
noncomputable def QS:PS:= .seq (.set 1 (.Zv 0 6 .nil)) (.seq (.ite (.cmp .Gt (.var 1) (.Zv 0 12 .nil)) (.o (.raise 0 (.cons (.lit (.str "length out of bounds")) (.o (.attr (.var 0) 1))))) .skip) (.seq (.set 2 (.attr (.var 0) 1)) (.o (.Zl (.call 782 (.cons (.Zv 0 2 (.o (.var 1))) (.o (.var 2))))))))
noncomputable def Ot:PS:= .o (.W3 0 (.var 1))
noncomputable def Kq:PS:= .o (.Tq 0 (.var 1))
noncomputable def WE:PS:= .seq (.ite (.cmp .Lt (.var 1) (.i 0)) (.o .bad) .skip) (.seq (.wh (.cmp .GtE (.var 1) (.i 128)) (.seq (.W3 0 (.bin .BitOr (.bin .BitAnd (.var 1) (.i 127)) (.i 128))) (.o (.set 1 (.bin .RShift (.var 1) (.i 7)))))) (.o (.W3 0 (.var 1))))
noncomputable def Wj:PS:= .seq (.wh (.not (.S6 .LtE .Lt (.neg (.i 64)) (.var 1) (.i 64))) (.seq (.W3 0 (.bin .BitOr (.bin .BitAnd (.var 1) (.i 127)) (.i 128))) (.o (.set 1 (.bin .RShift (.var 1) (.i 7)))))) (.o (.W3 0 (.bin .BitAnd (.var 1) (.i 127))))
noncomputable def NX:PS:= .o (.ex (.Zv 0 4 (.o (.var 1))))
noncomputable def Mj:PS:= .seq (.set 2 (.call 767 (.o (.var 1)))) (.seq (.ex (.Zv 0 4 (.o (.blt 0 (.o (.var 2)))))) (.o (.Tq 0 (.var 2))))
noncomputable def I5:PS:= .seq (.RO 1) (.seq (.VC [2] (.o (.var 0)) (.seq (.set 3 (.blt 6 (.o (.var 2)))) (.seq (.ite (.S6 .LtE .Lt (.i 55296) (.var 3) (.i 57344)) (.o .bad) .skip) (.o (.ite (.cmp .Lt (.var 3) (.i 128)) (.o (.app 1 (.var 3))) (.o (.ite (.cmp .Lt (.var 3) (.i 2048)) (.o (.ext 1 (.lst (.cons (.bin .BitOr (.i 192) (.bin .RShift (.var 3) (.i 6))) (.o (.bin .BitOr (.i 128) (.bin .BitAnd (.var 3) (.i 63)))))))) (.o (.ite (.cmp .Lt (.var 3) (.i 65536)) (.o (.ext 1 (.lst (.cons (.bin .BitOr (.i 224) (.bin .RShift (.var 3) (.i 12))) (.cons (.bin .BitOr (.i 128) (.bin .BitAnd (.bin .RShift (.var 3) (.i 6)) (.i 63))) (.o (.bin .BitOr (.i 128) (.bin .BitAnd (.var 3) (.i 63))))))))) (.o (.ext 1 (.lst (.cons (.bin .BitOr (.i 240) (.bin .RShift (.var 3) (.i 18))) (.cons (.bin .BitOr (.i 128) (.bin .BitAnd (.bin .RShift (.var 3) (.i 12)) (.i 63))) (.cons (.bin .BitOr (.i 128) (.bin .BitAnd (.bin .RShift (.var 3) (.i 6)) (.i 63))) (.o (.bin .BitOr (.i 128) (.bin .BitAnd (.var 3) (.i 63))))))))))))))))))) (.o (.ret (.blt 4 (.o (.var 1))))))
noncomputable def I1:PS:= .seq (.ite (.cmp .Lt (.var 0) (.i 128)) (.o (.Zl (.tup (.cons (.i 0) (.cons (.var 0) (.o (.i 0))))))) .skip) (.seq (.ite (.S6 .LtE .Lt (.i 192) (.var 0) (.i 224)) (.o (.Zl (.tup (.cons (.i 1) (.cons (.bin .BitAnd (.var 0) (.i 31)) (.o (.i 128))))))) .skip) (.seq (.ite (.S6 .LtE .Lt (.i 224) (.var 0) (.i 240)) (.o (.Zl (.tup (.cons (.i 2) (.cons (.bin .BitAnd (.var 0) (.i 15)) (.o (.i 2048))))))) .skip) (.seq (.ite (.S6 .LtE .Lt (.i 240) (.var 0) (.i 248)) (.o (.Zl (.tup (.cons (.i 3) (.cons (.bin .BitAnd (.var 0) (.i 7)) (.o (.i 65536))))))) .skip) (.o (.raise 0 (.cons (.lit (.str "malformed UTF-8 encoding")) (.o (.var 1))))))))
noncomputable def I2:PS:= .seq (.Gb 2 3 .nil (.i 0)) (.seq (.wh (.cmp .Lt (.var 3) (.blt 0 (.o (.var 0)))) (.seq (.Ur [4,5,6] (.call 774 (.cons (.sub (.var 0) (.var 3)) (.o (.bin .Add (.var 1) (.var 3)))))) (.seq (.ite (.cmp .GtE (.bin .Add (.var 3) (.var 4)) (.blt 0 (.o (.var 0)))) (.o (.raise 0 (.cons (.lit (.str "malformed UTF-8 encoding")) (.o (.bin .Add (.var 1) (.var 3)))))) .skip) (.seq (.VC [7] (.o (.lV (.var 0) (.o (.bin .Add (.var 3) (.i 1))) (.o (.bin .Add (.bin .Add (.var 3) (.i 1)) (.var 4))))) (.seq (.ite (.cmp .NotEq (.bin .BitAnd (.var 7) (.i 192)) (.i 128)) (.o (.raise 0 (.cons (.lit (.str "malformed UTF-8 encoding")) (.o (.bin .Add (.var 1) (.var 3)))))) .skip) (.o (.set 5 (.bin .BitOr (.bin .LShift (.var 5) (.i 6)) (.bin .BitAnd (.var 7) (.i 63))))))) (.seq (.ite (.or (.cmp .Lt (.var 5) (.var 6)) (.or (.cmp .Gt (.var 5) (.i 1114111)) (.S6 .LtE .Lt (.i 55296) (.var 5) (.i 57344)))) (.o (.raise 0 (.cons (.lit (.str "malformed UTF-8 encoding")) (.o (.bin .Add (.var 1) (.var 3)))))) .skip) (.seq (.app 2 (.blt 7 (.o (.var 5)))) (.o (.set 3 (.bin .Add (.bin .Add (.var 3) (.i 1)) (.var 4)))))))))) (.o (.ret (.blt 10 (.o (.var 2))))))
noncomputable def NZ:PS:= .seq (.set 2 (.bin .Mod (.sub (.var 0) (.i 0)) (.var 1))) (.seq (.NR 0 (.bin .FloorDiv (.sub (.var 0) (.i 0)) (.var 1))) (.o (.Zl (.var 2))))
noncomputable def Me:PS:= .o (.Zl (.sub (.lst (.cons (.lit (.str "a")) (.cons (.lit (.str "")) (.cons (.lit (.str "éb")) (.cons (.lit (.str "€")) (.o (.lit (.str "𐍈")))))))) (.call 796 (.cons (.var 0) (.o (.i 5))))))
noncomputable def Ow:PS:= .seq (.set 1 (.call 796 (.cons (.var 0) (.o (.i 3))))) (.seq (.ite (.cmp .Eq (.var 1) (.i 0)) (.o (.Zl (.call 796 (.cons (.var 0) (.o (.i 4)))))) .skip) (.o (.Zl (.ite (.cmp .Eq (.var 1) (.i 1)) (.sub (.lst (.cons (.i 127) (.cons (.i 128) (.cons (.i 16383) (.o (.i 16384)))))) (.call 796 (.cons (.var 0) (.o (.i 4))))) (.bin .Sub (.bin .Sub (.bin .Pow (.i 2) (.i 32)) (.i 1)) (.call 796 (.cons (.var 0) (.o (.bin .Pow (.i 2) (.i 32))))))))))
noncomputable def QE:PS:= .seq (.set 2 (.call 796 (.cons (.var 0) (.o (.i 3))))) (.seq (.ite (.cmp .Eq (.var 2) (.i 0)) (.o (.Zl (.bin .Sub (.call 796 (.cons (.var 0) (.o (.i 5)))) (.i 2)))) .skip) (.seq (.ite (.cmp .Eq (.var 2) (.i 1)) (.o (.Zl (.sub (.lst (.cons (.i 63) (.cons (.i 64) (.cons (.neg (.i 64)) (.cons (.neg (.i 65)) (.cons (.i 8191) (.cons (.i 8192) (.cons (.neg (.i 8192)) (.o (.neg (.i 8193))))))))))) (.call 796 (.cons (.var 0) (.o (.i 8))))))) .skip) (.o (.Zl (.bin .Sub (.call 796 (.cons (.var 0) (.o (.bin .Pow (.i 2) (.var 1))))) (.bin .Pow (.i 2) (.bin .Sub (.var 1) (.i 1))))))))
noncomputable def Mm:PS:= .o (.Zl (.sub (.tup (.cons (.neg (.i 1)) (.cons (.neg (.i 2)) (.cons (.neg (.i 16)) (.o (.neg (.i 17))))))) (.call 796 (.cons (.var 0) (.o (.i 4))))))
noncomputable def Ou:PS:= .o (.Zl (.blt 2 (.o (.comp (.call 831 (.o (.var 0))) [1] (.blt 1 (.o (.bin .Mod (.bin .Add (.i 1) (.call 796 (.cons (.var 0) (.o (.i 3))))) (.i 3)))) .nil))))
noncomputable def QC:PS:= .seq (.set 1 (.call 817 (.o (.var 0)))) (.o (.Zl (.tup (.cons (.var 1) (.o (.ite (.cmp .Eq (.call 796 (.cons (.var 0) (.o (.i 2)))) (.i 1)) (.call 817 (.o (.var 0))) (.lit .none)))))))
noncomputable def SE:PS:= .seq (.set 1 (.call 796 (.cons (.var 0) (.o (.i 4))))) (.seq (.ite (.cmp .Eq (.var 1) (.i 0)) (.o (.Zl (.lst (.cons (.tup (.cons (.i 65) (.o (.call 824 (.cons (.var 0) (.o (.i 32))))))) (.o (.tup (.o (.i 11)))))))) .skip) (.seq (.ite (.cmp .Eq (.var 1) (.i 1)) (.o (.Zl (.lst (.cons (.tup (.cons (.i 66) (.o (.call 824 (.cons (.var 0) (.o (.i 64))))))) (.o (.tup (.o (.i 11)))))))) .skip) (.seq (.ite (.cmp .Eq (.var 1) (.i 2)) (.o (.Zl (.lst (.cons (.tup (.cons (.i 35) (.o (.call 817 (.o (.var 0)))))) (.o (.tup (.o (.i 11)))))))) .skip) (.o (.Zl (.lst (.cons (.tup (.cons (.i 35) (.o (.call 817 (.o (.var 0)))))) (.cons (.tup (.cons (.i 65) (.o (.call 824 (.cons (.var 0) (.o (.i 32))))))) (.cons (.tup (.o (.i 106))) (.o (.tup (.o (.i 11)))))))))))))
noncomputable def ZX:PS:= .seq (.set 1 (.sub (.tup (.cons (.i 1) (.cons (.i 0) (.o (.i 2))))) (.call 796 (.cons (.var 0) (.o (.i 3)))))) (.seq (.set 2 (.ite (.and (.cmp .Eq (.var 1) (.i 1)) (.cmp .Eq (.call 796 (.cons (.var 0) (.o (.i 2)))) (.i 1))) (.call 817 (.o (.var 0))) (.i 0))) (.seq (.set 3 (.call 796 (.cons (.var 0) (.o (.i 3))))) (.seq (.set 4 (.ite (.cmp .Eq (.var 3) (.i 2)) (.neg (.i 17)) (.neg (.i 16)))) (.seq (.UI 5 .nil) (.seq (.VC [6] (.blt 1 (.o (.bin .Mod (.bin .Add (.i 1) (.call 796 (.cons (.var 0) (.o (.i 3))))) (.i 3)))) (.seq (.set 7 (.call 817 (.o (.var 0)))) (.seq (.set 8 (.sub (.tup (.cons (.lst (.o (.tup (.cons (.i 210) (.o (.var 7)))))) (.cons (.lst (.cons (.tup (.cons (.i 210) (.o (.var 7)))) (.cons (.tup (.cons (.i 208) (.o (.neg (.i 16))))) (.o (.tup (.cons (.i 35) (.o (.var 7)))))))) (.o (.lst (.cons (.tup (.cons (.i 208) (.o (.neg (.i 17))))) (.o (.tup (.cons (.i 35) (.o (.var 7))))))))))) (.var 3))) (.o (.app 5 (.lst (.cons (.sub (.var 8) (.call 796 (.cons (.var 0) (.o (.blt 0 (.o (.var 8))))))) (.o (.tup (.o (.i 11))))))))))) (.o (.Zl (.tup (.cons (.var 1) (.cons (.var 2) (.cons (.ite (.cmp .Eq (.var 1) (.i 1)) (.call 850 (.o (.var 0))) (.lit .none)) (.cons (.var 4) (.o (.var 5))))))))))))))
noncomputable def Wb:PS:= .seq (.set 1 (.sub (.tup (.cons (.i 1) (.o (.i 0)))) (.call 796 (.cons (.var 0) (.o (.i 2)))))) (.seq (.set 2 (.ite (.and (.cmp .Eq (.var 1) (.i 1)) (.cmp .Eq (.call 796 (.cons (.var 0) (.o (.i 2)))) (.i 1))) (.call 817 (.o (.var 0))) (.i 0))) (.seq (.set 3 (.blt 4 (.o (.comp (.call 796 (.cons (.var 0) (.o (.i 256)))) [4] (.blt 1 (.o (.bin .Mod (.bin .Add (.i 2) (.call 796 (.cons (.var 0) (.o (.i 4))))) (.i 4)))) .nil)))) (.o (.Zl (.tup (.cons (.var 1) (.cons (.var 2) (.cons (.ite (.cmp .Eq (.var 1) (.i 1)) (.call 850 (.o (.var 0))) (.lit .none)) (.o (.var 3))))))))))
noncomputable def O4:PS:= .seq (.ite (.cmp .Eq (.var 1) (.i 0)) (.o (.Zl (.call 817 (.o (.var 0))))) .skip) (.seq (.ite (.cmp .Eq (.var 1) (.i 1)) (.o (.Zl (.bin .Add (.tup (.o (.sub (.tup (.cons (.neg (.i 16)) (.o (.neg (.i 17))))) (.call 796 (.cons (.var 0) (.o (.i 2))))))) (.call 843 (.o (.var 0)))))) .skip) (.seq (.ite (.cmp .Eq (.var 1) (.i 2)) (.o (.Zl (.call 843 (.o (.var 0))))) .skip) (.seq (.set 2 (.call 831 (.o (.var 0)))) (.o (.Zl (.tup (.cons (.var 2) (.o (.call 796 (.cons (.var 0) (.o (.i 2))))))))))))
noncomputable def Oq:PS:= .seq (.ite (.cmp .Eq (.var 1) (.i 0)) (.o (.Zl (.call 857 (.o (.var 0))))) .skip) (.seq (.ite (.cmp .Eq (.var 1) (.i 1)) (.o (.Zl (.call 862 (.o (.var 0))))) .skip) (.seq (.ite (.cmp .Eq (.var 1) (.i 2)) (.seq (.set 2 (.call 810 (.o (.var 0)))) (.seq (.set 3 (.call 810 (.o (.var 0)))) (.seq (.set 4 (.bin .Mod (.bin .Add (.i 1) (.call 796 (.cons (.var 0) (.o (.i 4))))) (.i 4))) (.o (.Zl (.tup (.cons (.var 2) (.cons (.var 3) (.cons (.var 4) (.o (.call 869 (.cons (.var 0) (.o (.var 4)))))))))))))) .skip) (.seq (.ite (.cmp .Eq (.var 1) (.i 3)) (.seq (.set 5 (.call 836 (.o (.var 0)))) (.o (.Zl (.tup (.cons (.var 5) (.o (.call 836 (.o (.var 0))))))))) .skip) (.seq (.ite (.cmp .Eq (.var 1) (.i 7)) (.seq (.set 3 (.call 810 (.o (.var 0)))) (.seq (.set 6 (.call 796 (.cons (.var 0) (.o (.i 4))))) (.o (.Zl (.tup (.cons (.var 3) (.cons (.var 6) (.o (.call 817 (.o (.var 0))))))))))) .skip) (.o (.Zl (.call 869 (.cons (.var 0) (.o (.bin .Sub (.var 1) (.i 3)))))))))))
noncomputable def QN:PS:= .o (.Zl (.comp (.bin .Add (.bin .Mod (.bin .FloorDiv (.var 0) (.bin .Pow (.i 128) (.var 2))) (.i 128)) (.ite (.cmp .Lt (.var 2) (.bin .Sub (.var 1) (.i 1))) (.i 128) (.i 0))) [2] (.blt 1 (.o (.var 1))) .nil))
noncomputable def NY:PS:= .seq (.set 2 (.i 1)) (.seq (.wh (.cmp .GtE (.var 0) (.bin .Pow (.i 128) (.var 2))) (.o (.aug 2 .Add (.i 1)))) (.o (.Zl (.call 881 (.cons (.var 0) (.o (.blt 5 (.cons (.i 5) (.o (.bin .Add (.var 2) (.var 1)))))))))))
noncomputable def Km:PS:= .seq (.set 3 (.i 1)) (.seq (.wh (.or (.cmp .Lt (.var 0) (.bin .Mult (.neg (.i 64)) (.bin .Pow (.i 128) (.bin .Sub (.var 3) (.i 1))))) (.cmp .GtE (.var 0) (.bin .Mult (.i 64) (.bin .Pow (.i 128) (.bin .Sub (.var 3) (.i 1)))))) (.o (.aug 3 .Add (.i 1)))) (.o (.Zl (.call 881 (.cons (.var 0) (.o (.blt 5 (.cons (.bin .FloorDiv (.bin .Add (.var 1) (.i 6)) (.i 7)) (.o (.bin .Add (.var 3) (.var 2)))))))))))
noncomputable def Tv:PS:= .seq (.set 2 (.call 888 (.cons (.blt 0 (.o (.var 0))) (.o (.var 1))))) (.seq (.VC [3] (.o (.var 0)) (.o (.set 2 (.bin .Add (.var 2) (.var 3))))) (.o (.Zl (.var 2))))
noncomputable def Mh:PS:= .o (.Zl (.call 902 (.cons (.comp (.lst (.o (.var 2))) [2] (.o (.XF 4 (.var 0))) .nil) (.o (.var 1)))))
noncomputable def Tw:PS:= .seq (.UI 2 .nil) (.seq (.VC [3] (.o (.var 0)) (.seq (.set 4 (.sub (.var 3) (.i 0))) (.seq (.app 2 (.var 4)) (.o (.ite (.or (.cmp .Eq (.var 4) (.i 65)) (.cmp .Eq (.var 4) (.i 66))) (.o (.ext 2 (.call 895 (.cons (.sub (.var 3) (.i 1)) (.cons (.ite (.cmp .Eq (.var 4) (.i 65)) (.i 32) (.i 64)) (.o (.var 1))))))) (.o (.ite (.cmp .Eq (.var 4) (.i 208)) (.o (.app 2 (.bin .Add (.i 128) (.sub (.var 3) (.i 1))))) (.o (.ite (.or (.cmp .Eq (.var 4) (.i 35)) (.cmp .Eq (.var 4) (.i 210))) (.o (.ext 2 (.call 888 (.cons (.sub (.var 3) (.i 1)) (.o (.var 1)))))) .skip))))))))) (.o (.Zl (.var 2))))
noncomputable def Xm:PS:= .seq (.Ur [2,3,4,5,6] (.var 0)) (.seq (.set 7 (.comp (.var 13) [13] (.o (.var 6)) (.o (.cmp .NotEq (.sub (.sub (.var 13) (.i 0)) (.i 0)) (.i 210))))) (.seq (.UI 8 .nil) (.seq (.VC [9] (.blt 1 (.o (.i 8))) (.seq (.set 10 (.and (.cmp .Eq (.sub (.tup (.cons (.i 1) (.cons (.i 0) (.cons (.i 1) (.o (.i 2)))))) (.bin .Mod (.var 9) (.i 4))) (.var 2)) (.or (.cmp .Eq (.bin .Mod (.var 9) (.i 4)) (.i 2)) (.cmp .Eq (.var 3) (.i 0))))) (.seq (.ite (.or (.and (.cmp .LtE (.var 9) (.i 4)) (.cmp .NotEq (.var 5) (.neg (.i 16)))) (.and (.cmp .Lt (.var 9) (.i 4)) (.cmp .NotEq (.var 7) (.lst .nil)))) (.o (.set 10 (.lit (.bool false)))) .skip) (.o (.ite (.var 10) (.seq (.set 11 (.bin .Add (.call 888 (.cons (.var 9) (.o (.var 1)))) (.ite (.cmp .Eq (.bin .Mod (.var 9) (.i 4)) (.i 2)) (.call 888 (.cons (.var 3) (.o (.var 1)))) (.lst .nil)))) (.seq (.ite (.cmp .Eq (.var 2) (.i 1)) (.o (.set 11 (.bin .Add (.var 11) (.call 914 (.cons (.var 4) (.o (.var 1))))))) .skip) (.seq (.ite (.cmp .NotEq (.bin .Mod (.var 9) (.i 4)) (.i 0)) (.o (.set 11 (.bin .Add (.var 11) (.lst (.o (.ite (.cmp .Lt (.var 9) (.i 4)) (.i 0) (.bin .Add (.i 128) (.var 5)))))))) .skip) (.seq (.set 12 (.comp (.ite (.cmp .Lt (.var 9) (.i 4)) (.call 888 (.cons (.sub (.sub (.var 13) (.i 0)) (.i 1)) (.o (.var 1)))) (.call 914 (.cons (.var 13) (.o (.var 1))))) [13] (.o (.var 6)) .nil)) (.o (.app 8 (.bin .Add (.var 11) (.call 902 (.cons (.var 12) (.o (.var 1))))))))))) .skip))))) (.o (.Zl (.var 8))))))
noncomputable def TF:PS:= .seq (.Ur [2,3,4,5] (.var 0)) (.seq (.set 6 (.call 902 (.cons (.comp (.lst (.o (.var 8))) [8] (.o (.var 5)) .nil) (.o (.var 1))))) (.seq (.ite (.cmp .Eq (.var 2) (.i 0)) (.o (.Zl (.lst (.o (.bin .Add (.call 888 (.cons (.i 1) (.o (.var 1)))) (.var 6)))))) .skip) (.seq (.set 6 (.bin .Add (.call 914 (.cons (.var 4) (.o (.var 1)))) (.var 6))) (.seq (.set 7 (.bin .Add (.bin .Add (.call 888 (.cons (.i 2) (.o (.var 1)))) (.call 888 (.cons (.var 3) (.o (.var 1))))) (.var 6))) (.o (.Zl (.ite (.cmp .Eq (.var 3) (.i 0)) (.lst (.cons (.bin .Add (.call 888 (.cons (.i 0) (.o (.var 1)))) (.var 6)) (.o (.var 7)))) (.lst (.o (.var 7))))))))))
noncomputable def UK:PS:= .seq (.ite (.cmp .Eq (.var 1) (.i 0)) (.o (.Zl (.call 888 (.cons (.var 0) (.o (.var 2)))))) .skip) (.seq (.ite (.cmp .Eq (.var 1) (.i 3)) (.o (.Zl (.lst (.cons (.bin .Add (.i 128) (.sub (.var 0) (.i 0))) (.o (.sub (.var 0) (.i 1))))))) .skip) (.seq (.set 3 (.ite (.cmp .Eq (.var 1) (.i 1)) (.lst (.o (.bin .Add (.i 128) (.sub (.var 0) (.i 0))))) (.lst .nil))) (.seq (.Ur [4,5] (.ite (.cmp .Eq (.var 1) (.i 1)) (.lV (.var 0) (.o (.i 1)) .nil) (.var 0))) (.seq (.ite (.cmp .Is (.var 5) (.lit .none)) (.o (.Zl (.bin .Add (.bin .Add (.var 3) (.lst (.o (.i 0)))) (.call 888 (.cons (.var 4) (.o (.var 2))))))) .skip) (.o (.Zl (.bin .Add (.bin .Add (.bin .Add (.var 3) (.lst (.o (.i 1)))) (.call 888 (.cons (.var 4) (.o (.var 2))))) (.call 888 (.cons (.var 5) (.o (.var 2)))))))))))
noncomputable def Mg:PS:= .seq (.ite (.cmp .Eq (.var 1) (.i 0)) (.o (.Zl (.call 919 (.cons (.var 0) (.o (.var 2)))))) .skip) (.seq (.ite (.cmp .Eq (.var 1) (.i 1)) (.o (.Zl (.call 924 (.cons (.var 0) (.o (.var 2)))))) .skip) (.seq (.ite (.cmp .Eq (.var 1) (.i 2)) (.seq (.Ur [3,4,5,6] (.var 0)) (.o (.Zl (.lst (.o (.bin .Add (.bin .Add (.bin .Add (.call 907 (.cons (.var 3) (.o (.var 2)))) (.call 907 (.cons (.var 4) (.o (.var 2))))) (.lst (.o (.var 5)))) (.call 931 (.cons (.var 6) (.cons (.var 5) (.o (.var 2))))))))))) .skip) (.seq (.ite (.cmp .Eq (.var 1) (.i 3)) (.seq (.set 7 (.comp (.call 902 (.cons (.comp (.lst (.o (.bin .Add (.i 128) (.var 10)))) [10] (.o (.var 9)) .nil) (.o (.var 2)))) [9] (.o (.var 0)) .nil)) (.o (.Zl (.lst (.o (.bin .Add (.bin .Add (.lst (.o (.i 96))) (.sub (.var 7) (.i 0))) (.sub (.var 7) (.i 1)))))))) .skip) (.seq (.ite (.cmp .Eq (.var 1) (.i 7)) (.seq (.Ur [4,5,8] (.var 0)) (.o (.Zl (.lst (.o (.bin .Add (.bin .Add (.call 907 (.cons (.var 4) (.o (.var 2)))) (.lst (.o (.var 5)))) (.call 888 (.cons (.var 8) (.o (.var 2)))))))))) .skip) (.o (.Zl (.lst (.o (.call 931 (.cons (.var 0) (.cons (.bin .Sub (.var 1) (.i 3)) (.o (.var 2)))))))))))))
noncomputable def Ko:PS:= .o (.ite (.cmp .Eq (.var 2) (.i 0)) (.o (.ex (.call 388 (.cons (.var 0) (.o (.inst 0 (.cons (.sub (.var 1) (.i 0)) (.cons (.sub (.var 1) (.i 1)) (.cons (.sub (.var 1) (.i 2)) (.cons (.sub (.var 1) (.i 3)) (.o (.sub (.var 1) (.i 4))))))))))))) (.o (.ite (.cmp .Eq (.var 2) (.i 1)) (.o (.ex (.call 395 (.cons (.var 0) (.o (.inst 1 (.cons (.sub (.var 1) (.i 0)) (.cons (.sub (.var 1) (.i 1)) (.cons (.sub (.var 1) (.i 2)) (.o (.sub (.var 1) (.i 3)))))))))))) (.o (.ite (.cmp .Eq (.var 2) (.i 2)) (.o (.ex (.call 327 (.cons (.var 0) (.o (.inst 2 (.cons (.sub (.var 1) (.i 0)) (.cons (.sub (.var 1) (.i 1)) (.cons (.sub (.var 1) (.i 2)) (.o (.sub (.var 1) (.i 3)))))))))))) (.o (.ite (.cmp .Eq (.var 2) (.i 3)) (.o (.ex (.call 299 (.cons (.var 0) (.o (.var 1)))))) (.o (.ite (.cmp .Eq (.var 2) (.i 4)) (.o (.ex (.call 306 (.cons (.var 0) (.o (.var 1)))))) (.o (.ite (.cmp .Eq (.var 2) (.i 5)) (.o (.ex (.call 313 (.cons (.var 0) (.o (.var 1)))))) (.o (.ite (.cmp .Eq (.var 2) (.i 6)) (.o (.ex (.call 320 (.cons (.var 0) (.o (.var 1)))))) (.o (.ex (.call 334 (.cons (.var 0) (.o (.var 1)))))))))))))))))))
noncomputable def QG:PS:= .seq (.ite (.cmp .Eq (.var 1) (.i 0)) (.seq (.set 2 (.call 563 (.o (.var 0)))) (.o (.Zl (.tup (.cons (.attr (.var 2) 3) (.cons (.attr (.var 2) 4) (.cons (.attr (.var 2) 5) (.cons (.attr (.var 2) 6) (.o (.attr (.var 2) 7)))))))))) .skip) (.seq (.ite (.cmp .Eq (.var 1) (.i 1)) (.seq (.set 2 (.call 570 (.o (.var 0)))) (.o (.Zl (.tup (.cons (.attr (.var 2) 3) (.cons (.attr (.var 2) 8) (.cons (.attr (.var 2) 5) (.o (.attr (.var 2) 0))))))))) .skip) (.seq (.ite (.cmp .Eq (.var 1) (.i 2)) (.seq (.set 2 (.call 481 (.o (.var 0)))) (.o (.Zl (.tup (.cons (.attr (.var 2) 9) (.cons (.attr (.var 2) 10) (.cons (.attr (.var 2) 11) (.o (.attr (.var 2) 12))))))))) .skip) (.seq (.ite (.cmp .Eq (.var 1) (.i 3)) (.o (.Zl (.call 446 (.o (.var 0))))) .skip) (.seq (.ite (.cmp .Eq (.var 1) (.i 4)) (.o (.Zl (.call 460 (.o (.var 0))))) .skip) (.seq (.ite (.cmp .Eq (.var 1) (.i 5)) (.o (.Zl (.call 467 (.o (.var 0))))) .skip) (.o (.Zl (.ite (.cmp .Eq (.var 1) (.i 6)) (.call 474 (.o (.var 0))) (.call 488 (.o (.var 0)))))))))))
noncomputable def Rp:PS:= .seq (.set 5 (.var 3)) (.seq (.set 6 (.lst .nil)) (.seq (.ite (.or (.cmp .Eq (.var 1) (.i 2)) (.cmp .Eq (.var 1) (.i 7))) (.o (.set 6 (.ite (.cmp .Eq (.var 1) (.i 2)) (.lst (.cons (.sub (.var 0) (.i 0)) (.o (.sub (.var 0) (.i 1))))) (.lst (.o (.sub (.var 0) (.i 0))))))) .skip) (.seq (.VC [7] (.o (.var 6)) (.seq (.set 8 (.bin .Add (.var 5) (.blt 0 (.o (.call 907 (.cons (.var 7) (.o (.var 2)))))))) (.seq (.set 5 (.bin .Sub (.var 8) (.blt 0 (.o (.XF 4 (.var 7)))))) (.seq (.ite (.and (.cmp .LtE (.var 5) (.var 4)) (.cmp .Lt (.var 4) (.var 8))) (.o (.Zl (.tup (.cons (.lit (.str "malformed")) (.cons (.lit (.str "length out of bounds")) (.o (.var 5))))))) .skip) (.o (.set 5 (.var 8))))))) (.o (.Zl (.tup (.cons (.lit (.str "malformed")) (.cons (.lit (.str "unexpected end")) (.o (.var 4))))))))))
noncomputable def Wi:PS:= .seq (.set 1 (.lit (.str "integer too large"))) (.seq (.set 2 (.lit (.str "malformed reference type"))) (.seq (.set 3 (.lit (.str "malformed limits flags"))) (.seq (.set 4 (.lit (.str "malformed UTF-8 encoding"))) (.seq (.set 5 (.tup (.cons (.tup (.cons (.i 0) (.cons (.lst (.o (.i 8))) (.cons (.lit (.str "malformed elements segment kind")) (.o (.i 0)))))) (.cons (.tup (.cons (.i 0) (.cons (.lst (.cons (.i 1) (.o (.i 1)))) (.cons (.lit (.str "malformed element kind")) (.o (.i 1)))))) (.cons (.tup (.cons (.i 0) (.cons (.lst (.cons (.i 5) (.o (.i 127)))) (.cons (.var 2) (.o (.i 1)))))) (.cons (.tup (.cons (.i 0) (.cons (.lst (.cons (.i 2) (.cons (.i 3) (.cons (.i 65) (.cons (.i 0) (.cons (.i 11) (.o (.i 1)))))))) (.cons (.lit (.str "malformed element kind")) (.o (.i 5)))))) (.cons (.tup (.cons (.i 0) (.cons (.lst (.cons (.i 6) (.cons (.i 0) (.cons (.i 65) (.cons (.i 0) (.cons (.i 11) (.o (.i 125)))))))) (.cons (.var 2) (.o (.i 5)))))) (.cons (.tup (.cons (.i 0) (.cons (.lst (.cons (.i 0) (.cons (.i 65) (.cons (.i 0) (.o (.i 5)))))) (.cons (.lit (.str "END opcode expected")) (.o (.i 3)))))) (.cons (.tup (.cons (.i 0) (.cons (.lst (.cons (.i 7) (.cons (.i 112) (.cons (.i 1) (.cons (.i 208) (.o (.i 127))))))) (.cons (.var 2) (.o (.i 4)))))) (.cons (.tup (.cons (.i 0) (.cons (.lst (.cons (.i 3) (.cons (.i 0) (.cons (.i 1) (.cons (.i 128) (.cons (.i 128) (.cons (.i 128) (.cons (.i 128) (.o (.i 16)))))))))) (.cons (.var 1) (.o (.i 3)))))) (.cons (.tup (.cons (.i 0) (.cons (.lst (.cons (.i 4) (.cons (.i 65) (.cons (.i 0) (.cons (.i 11) (.cons (.i 1) (.o (.i 6)))))))) (.cons (.lit (.str "illegal opcode")) (.o (.i 5)))))) (.cons (.tup (.cons (.i 1) (.cons (.lst (.o (.i 3))) (.cons (.lit (.str "malformed data segment kind")) (.o (.i 0)))))) (.cons (.tup (.cons (.i 1) (.cons (.lst (.cons (.i 1) (.cons (.i 3) (.cons (.i 97) (.o (.i 98)))))) (.cons (.lit (.str "unexpected end")) (.o (.i 4)))))) (.cons (.tup (.cons (.i 1) (.cons (.lst (.cons (.i 2) (.cons (.i 128) (.cons (.i 128) (.cons (.i 128) (.cons (.i 128) (.o (.i 16)))))))) (.cons (.var 1) (.o (.i 1)))))) (.cons (.tup (.cons (.i 1) (.cons (.lst (.cons (.i 0) (.o (.i 68)))) (.cons (.lit (.str "an instruction that is left out")) (.o (.i 1)))))) (.cons (.tup (.cons (.i 2) (.cons (.lst (.cons (.i 0) (.cons (.i 0) (.o (.i 4))))) (.cons (.lit (.str "malformed \x69mport kind")) (.o (.i 2)))))) (.cons (.tup (.cons (.i 2) (.cons (.lst (.cons (.i 0) (.cons (.i 0) (.cons (.i 1) (.o (.i 127)))))) (.cons (.var 2) (.o (.i 3)))))) (.cons (.tup (.cons (.i 2) (.cons (.lst (.cons (.i 0) (.cons (.i 0) (.cons (.i 2) (.o (.i 2)))))) (.cons (.var 3) (.o (.i 3)))))) (.cons (.tup (.cons (.i 2) (.cons (.lst (.cons (.i 0) (.cons (.i 0) (.cons (.i 3) (.cons (.i 127) (.o (.i 2))))))) (.cons (.lit (.str "malformed mutability")) (.o (.i 4)))))) (.cons (.tup (.cons (.i 2) (.cons (.lst (.cons (.i 1) (.o (.i 255)))) (.cons (.var 4) (.o (.i 1)))))) (.cons (.tup (.cons (.i 2) (.cons (.lst (.cons (.i 0) (.cons (.i 2) (.cons (.i 97) (.o (.i 128)))))) (.cons (.var 4) (.o (.i 3)))))) (.cons (.tup (.cons (.i 2) (.cons (.lst (.cons (.i 0) (.cons (.i 0) (.cons (.i 3) (.o (.i 125)))))) (.cons (.lit (.str "floats are left out")) (.o (.i 3)))))) (.cons (.tup (.cons (.i 2) (.cons (.lst (.cons (.i 0) (.cons (.i 0) (.cons (.i 0) (.cons (.i 128) (.cons (.i 128) (.cons (.i 128) (.cons (.i 128) (.o (.i 16)))))))))) (.cons (.var 1) (.o (.i 3)))))) (.cons (.tup (.cons (.i 3) (.cons (.lst (.o (.i 97))) (.cons (.lit (.str "malformed function type")) (.o (.i 0)))))) (.cons (.tup (.cons (.i 3) (.cons (.lst (.cons (.i 96) (.cons (.i 1) (.o (.i 110))))) (.cons (.lit (.str "malformed value type")) (.o (.i 2)))))) (.cons (.tup (.cons (.i 3) (.cons (.lst (.cons (.i 96) (.cons (.i 0) (.cons (.i 1) (.o (.i 123)))))) (.cons (.lit (.str "vectors are left out")) (.o (.i 3)))))) (.cons (.tup (.cons (.i 4) (.cons (.lst (.o (.i 127))) (.cons (.var 2) (.o (.i 0)))))) (.cons (.tup (.cons (.i 4) (.cons (.lst (.cons (.i 111) (.o (.i 2)))) (.cons (.var 3) (.o (.i 1)))))) (.cons (.tup (.cons (.i 5) (.cons (.lst (.o (.i 2))) (.cons (.var 3) (.o (.i 0)))))) (.cons (.tup (.cons (.i 5) (.cons (.lst (.cons (.i 1) (.cons (.i 0) (.cons (.i 128) (.cons (.i 128) (.cons (.i 128) (.cons (.i 128) (.o (.i 16))))))))) (.cons (.var 1) (.o (.i 2)))))) (.cons (.tup (.cons (.i 6) (.cons (.lst (.o (.i 64))) (.cons (.lit (.str "malformed value type")) (.o (.i 0)))))) (.cons (.tup (.cons (.i 6) (.cons (.lst (.cons (.i 111) (.o (.i 2)))) (.cons (.lit (.str "malformed mutability")) (.o (.i 1)))))) (.cons (.tup (.cons (.i 7) (.cons (.lst (.cons (.i 1) (.cons (.i 97) (.o (.i 4))))) (.cons (.lit (.str "malformed export kind")) (.o (.i 2)))))) (.o (.tup (.cons (.i 7) (.cons (.lst (.cons (.i 2) (.cons (.i 195) (.o (.i 40))))) (.cons (.var 4) (.o (.i 1)))))))))))))))))))))))))))))))))))))))) (.seq (.Ur [6,7,8,9] (.sub (.var 5) (.call 796 (.cons (.var 0) (.o (.blt 0 (.o (.var 5)))))))) (.o (.Zl (.tup (.cons (.var 6) (.cons (.var 7) (.cons (.ite (.cmp .Eq (.lV (.var 8) (.o (.neg (.i 8))) .nil) (.lit (.str "left out"))) (.lit (.str "left out")) (.lit (.str "malformed"))) (.cons (.var 8) (.o (.var 9))))))))))))))
noncomputable def QD:List (Nat × Ent):=[(98,⟨1,8,QO⟩),(105,⟨1,4,I3⟩),(112,⟨1,4,Kl⟩),(117,⟨1,4,QK⟩),(278,⟨2,5,Kn⟩),(285,⟨2,6,TJ⟩),(292,⟨3,6,O3⟩),(299,⟨2,7,S9⟩),(306,⟨2,8,Tz⟩),(313,⟨2,7,UM⟩),(320,⟨2,7,UJ⟩),(327,⟨2,5,O1⟩),(334,⟨2,8,O0⟩),(341,⟨2,5,Tu⟩),(348,⟨2,5,Kg⟩),(355,⟨2,6,VI⟩),(362,⟨3,6,TG⟩),(369,⟨2,7,UN⟩),(376,⟨2,6,U2⟩),(383,⟨1,4,SG⟩),(388,⟨2,10,ZS⟩),(395,⟨2,5,Kr⟩),(404,⟨2,7,QL⟩),(411,⟨1,4,Kh⟩),(418,⟨2,5,Ml⟩),(425,⟨2,7,Mf⟩),(432,⟨1,4,I0⟩),(439,⟨1,6,QJ⟩),(446,⟨1,7,RC⟩),(453,⟨1,7,NW⟩),(460,⟨1,7,SH⟩),(467,⟨1,4,TA⟩),(474,⟨1,7,TH⟩),(481,⟨1,8,Ma⟩),(488,⟨1,7,Mc⟩),(495,⟨1,6,SD⟩),(502,⟨1,5,Md⟩),(509,⟨1,6,Mb⟩),(516,⟨1,5,Mi⟩),(523,⟨2,5,Vi⟩),(530,⟨2,7,S8⟩),(537,⟨1,7,I4⟩),(544,⟨2,9,UL⟩),(551,⟨1,4,QI⟩),(558,⟨1,5,RE⟩),(563,⟨1,13,Vj⟩),(570,⟨1,9,Iz⟩),(592,⟨1,4,QM⟩),(606,⟨1,4,QT⟩),(613,⟨1,5,RD⟩),(620,⟨2,6,QH⟩),(627,⟨2,6,QF⟩),(634,⟨2,10,Wh⟩),(641,⟨2,10,WD⟩),(648,⟨1,4,Oz⟩),(655,⟨1,4,Mk⟩),(662,⟨1,4,Ox⟩),(669,⟨1,4,Ov⟩),(676,⟨1,4,O2⟩),(683,⟨1,6,QS⟩),(711,⟨2,5,Ot⟩),(718,⟨2,5,Kq⟩),(725,⟨2,5,WE⟩),(732,⟨2,5,Wj⟩),(739,⟨2,5,NX⟩),(746,⟨2,6,Mj⟩),(767,⟨1,7,I5⟩),(774,⟨2,5,I1⟩),(782,⟨2,11,I2⟩),(796,⟨2,6,NZ⟩),(810,⟨1,4,Me⟩),(817,⟨1,5,Ow⟩),(824,⟨2,6,QE⟩),(831,⟨1,4,Mm⟩),(836,⟨1,4,Ou⟩),(843,⟨1,5,QC⟩),(850,⟨1,5,SE⟩),(857,⟨1,12,ZX⟩),(862,⟨1,7,Wb⟩),(869,⟨2,6,O4⟩),(876,⟨2,10,Oq⟩),(881,⟨2,5,QN⟩),(888,⟨2,6,NY⟩),(895,⟨3,7,Km⟩),(902,⟨2,7,Tv⟩),(907,⟨2,5,Mh⟩),(914,⟨2,8,Tw⟩),(919,⟨2,16,Xm⟩),(924,⟨2,11,TF⟩),(931,⟨3,9,UK⟩),(936,⟨3,12,Mg⟩),(943,⟨3,6,Ko⟩),(950,⟨2,6,QG⟩),(964,⟨5,12,Rp⟩),(971,⟨1,13,Wi⟩)]
end
section
open PySem PySem.W
noncomputable abbrev cx(r:Nat):Cx:=Cp QD r
abbrev cN(r f:Nat)(vs:List S)(st:St)(Q:D→St→Prop)(X:Xp):Prop:=Bx (Kf QD r f vs st Q X)
noncomputable abbrev fr0(vs:List S)(n:Nat):Ev:=vs.map some++i8 n none
theorem Za{r f np ns:Nat}{p:PS}{vs:List S}{st:St}{Q:D→St→Prop}{X:Xp}(h:QD.lookup f=some ⟨np,ns,p⟩)(hl:(qp vs.length np&&vs.all fun v=> !ZO v)=true)
  (hq:wpS (cx r) p (fr0 vs (ns - np)) st (fun _ st=>Q .none st) Q X):cN (r+1) f vs st Q X:=
 ⟨Yh h (Z5 hl hq)⟩
theorem kr{A B:Prop}(h:B)(e:A=B):A:=e▸h
noncomputable def U3(n:Int)(k:Nat):Int:=(n/128^k)%128
noncomputable def Vk(n:Int)(m:Nat)(k:Nat):Int:=U3 n k+if k+1<m then 128 else 0
noncomputable def QU(n:Int)(m:Nat):Nat→Nat→List Int
 |_,0=>[]
 |k,j+1=>Vk n m k::QU n m (k+1) j
noncomputable def groups(n:Int)(m:Nat):List Int:=QU n m 0 m
noncomputable def least(T:Nat→Bool):Nat→Nat→Nat
 |0,k=>k
 |f+1,k=>match T k with|true=>least T f (k+1)|false=>k
noncomputable def QV(n:Int)(k:Nat):Bool:=decide (128^k≤n)
noncomputable def OS(n:Int)(k:Nat):Bool:=decide (n< -64*128^(k - 1))||decide (64*128^(k - 1)≤n)
noncomputable def many(n:Int):Nat:=least (QV n) 4 1
noncomputable def Xx(n:Int):Nat:=least (OS n) 9 1
noncomputable def free(n:Int)(pad:Nat):List Int:=groups n (min 5 (many n+pad))
noncomputable def own(n:Int)(bits pad:Nat):List Int:=groups n (min ((bits+6)/7) (Xx n+pad))
structure In(lo hi i:Int):Prop where
 lo:lo≤i
 hi:i<hi
theorem In.lit{lo hi i:Int}(h:(decide (lo≤i)&&decide (i<hi))=true):In lo hi i:=⟨of_decide_eq_true (gj.mp h).1,of_decide_eq_true (gj.mp h).2⟩
abbrev Zx(i:Int):Prop:=In 0 4294967296 i
abbrev Eg(i:Int):Prop:=In (-2147483648) 2147483648 i
abbrev O5(i:Int):Prop:=In (-9223372036854775808) 9223372036854775808 i
inductive Rk:Int→Prop|a:Rk (-16)|b:Rk (-17)
inductive Kd:Int→Prop|a:Kd (-1)|b:Kd (-2)|c:Kd (-16)|d:Kd (-17)
inductive lX:Int→Prop|a:lX 0|b:lX 1
set_option genCtorIdx true in
inductive Tx where|a|e|eb|eu|go
noncomputable def Tx.s:Tx→Str
 | .a=>"a"| .e=>""| .eb=>"éb"| .eu=>"€"| .go=>"𐍈"
noncomputable def Tx.o:Tx→List Int
 | .a=>[97]| .e=>[]| .eb=>[195,169,98]| .eu=>[226,130,172]| .go=>[240,144,141,136]
inductive Zm where|Dx(a:Int)|Cu(a:Int)|glob(a:Int)|fn(a:Int)|null(k:Int)|add
def Zm.Ok:Zm→Prop
 | .Dx a=>Eg a| .Cu a=>O5 a| .glob a=>Zx a| .fn a=>Zx a| .null k=>Rk k| .add=>True
noncomputable def Zm.code:Zm→Int
 | .Dx _=>65| .Cu _=>66| .glob _=>35| .fn _=>210| .null _=>208| .add=>106
noncomputable def Zm.imm:Zm→List D
 | .Dx a=>[.int a]| .Cu a=>[.int a]| .glob a=>[.int a]| .fn a=>[.int a]| .null a=>[.int a]| .add=>[]
noncomputable abbrev i1(a:Int):D:= .tup [.int a]
noncomputable def Zm.d(i:Zm):D:= .tup (.int i.code::i.imm)
inductive All{α:Type}(P:α→Prop):List α→Prop
 |nil:All P []
 |cons {a:α} {l:List α}:P a→All P l→All P (a::l)
structure Ads{α:Type}(P:α→Prop)(a:α)(l:List α):Prop where
 a:P a
 r:All P l
theorem All.un{α:Type}{P:α→Prop}{a:α}{l:List α}(h:All P (a::l)):Ads P a l:=by cases h with|cons x y=>exact⟨x,y⟩
structure ZI{α:Type}(n:Nat)(P:α→Prop)(l:List α):Prop where
 le:l.length≤n
 all:All P l
noncomputable def XG(l:List Zm):D:= .list (l.map Zm.d++[i1 11])
abbrev Zz(l:List Zm):Prop:=ZI 3 Zm.Ok l
noncomputable def SI:Option Int→D|none=> .none|some b=> .int b
inductive Ed{α:Type}(P:α→Prop):Option α→Prop|no:Ed P none|so {a:α}:P a→Ed P (some a)
inductive Ab where|idx(a:Int)|tab(k a:Int)(b:Option Int)|mem(a:Int)(b:Option Int)|glob(k m:Int)
noncomputable def Ab.sort:Ab→Int
 | .idx _=>0| .tab _ _ _=>1| .mem _ _=>2| .glob _ _=>3
noncomputable def Ab.d:Ab→D
 | .idx a=> .int a| .tab k a b=> .tup [.int k,.int a,SI b]| .mem a b=> .tup [.int a,SI b]| .glob k m=> .tup [.int k,.int m]
inductive Ab.Ok:Ab→Prop
 |idx {a:Int}:Zx a→Ok (.idx a)
 |tab {k a:Int} {b:Option Int}:Rk k→Zx a→Ed Zx b→Ok (.tab k a b)
 |mem {a:Int} {b:Option Int}:Zx a→Ed Zx b→Ok (.mem a b)
 |glob {k m:Int}:Kd k→lX m→Ok (.glob k m)
structure El where
 mode:Nat
 t:Int
 c:Option (List Zm)
 k:Int
 Yg:List Zm
inductive El.Ok:El→Prop
 |act {t k:Int} {l Yg:List Zm}:Zx t→Zz l→Rk k→ZI 2 Zm.Ok Yg→Ok ⟨1,t,some l,k,Yg⟩
 |cM {k:Int} {Yg:List Zm}:Rk k→ZI 2 Zm.Ok Yg→Ok ⟨0,0,none,k,Yg⟩
 |dec {k:Int} {Yg:List Zm}:Rk k→ZI 2 Zm.Ok Yg→Ok ⟨2,0,none,k,Yg⟩
noncomputable def Ku:Option (List Zm)→D
 |none=> .none|some l=>XG l
noncomputable def Xw(l:List Zm):D:= .list (l.map fun i=>XG [i])
noncomputable def El.d(x:El):D:= .tup [.int x.mode,.int x.t,Ku x.c,.int x.k,Xw x.Yg]
structure Dt where
 mem:Int
 c:Option (List Zm)
 bs:List Int
abbrev By(b:Int):Prop:=ZR b=true
inductive Dt.Ok:Dt→Prop
 |act {m:Int} {l:List Zm} {bs:List Int}:Zx m→Zz l→ZI 3 By bs→Ok ⟨m,some l,bs⟩
 |cM {bs:List Int}:ZI 3 By bs→Ok ⟨0,none,bs⟩
noncomputable def Dt.mode(x:Dt):Int:=match x.c with|some _=>1|none=>0
noncomputable def Dt.d(x:Dt):D:= .tup [.int x.mode,.int x.mem,Ku x.c,.bytes x.bs]
inductive Th where
 |elem (x:El)|data (x:Dt)|imp (a b:Tx) (ab:Ab)|typ (ps rs:List Int)|tab (k a:Int) (b:Option Int)|mem (a:Int) (b:Option Int)|glob (k m:Int)|exp (a:Tx) (s:Fin 4) (i:Int)
noncomputable def Th.sort:Th→Nat
 | .elem _=>0| .data _=>1| .imp _ _ _=>2| .typ _ _=>3| .tab _ _ _=>4| .mem _ _=>5| .glob _ _=>6| .exp _ _ _=>7
inductive Th.Ok:Th→Prop
 |elem {x:El}:x.Ok→Ok (.elem x)
 |data {x:Dt}:x.Ok→Ok (.data x)
 |imp {a b:Tx} {x:Ab}:x.Ok→Ok (.imp a b x)
 |typ {ps rs:List Int}:ZI 2 Kd ps→ZI 2 Kd rs→Ok (.typ ps rs)
 |tab {k a:Int} {b:Option Int}:Rk k→Zx a→Ed Zx b→Ok (.tab k a b)
 |mem {a:Int} {b:Option Int}:Zx a→Ed Zx b→Ok (.mem a b)
 |glob {k m:Int}:Kd k→lX m→Ok (.glob k m)
 |exp {a:Tx} {s:Fin 4} {i:Int}:Zx i→Ok (.exp a s i)
noncomputable def Th.d:Th→D
 | .elem x=>x.d
 | .data x=>x.d
 | .imp a b x=> .tup [.str a.s,.str b.s,.int x.sort,x.d]
 | .typ ps rs=> .tup [.tup (ps.map .int),.tup (rs.map .int)]
 | .tab k a b=> .tup [.int k,.int a,SI b]
 | .mem a b=> .tup [.int a,SI b]
 | .glob k m=> .tup [.int k,.int m]
 | .exp a s i=> .tup [.str a.s,.int s.val,.int i]
noncomputable abbrev St.w(st:St)(v:Int):St:={st with one:=some v}
section
variable{r:Nat}{v0:Int}{st:St}{Q:D→St→Prop}{X:Xp}
theorem Yz{m:Int}(hm:0<m)(q:∀k v,In 0 m k→Q (.int k) (st.w v)):cN (r+1) 796 [.tag .one,.d (.int m)] (st.w v0) Q X:=
 have h:decide (m≠0)=true:=decide_eq_true (w6 hm)
 Za (ns:=6) rfl rfl (Z5 h (Z5 h (q _ _ (.mk (z0 _ hm) (Int.fmod_lt_of_pos _ hm)))))
noncomputable def dH(P:Nat→Prop):Nat→Prop
 |0=>True
 |n+1=>P n∧dH P n
theorem each{P:Nat→Prop}:∀{n:Nat},dH P n→∀k,k<n→P k
 |n+1,h,k,hk=>if e:k=n then e▸h.1 else each h.2 k (sq (qq hk) e)
theorem Z4{n:Nat}(hm:0<n)(q:dH (fun k=>∀v,Q (.int k) (st.w v)) n):cN (r+1) 796 [.tag .one,.d (.int n)] (st.w v0) Q X:=
 Yz (zj.mpr hm) fun k v hk=>by
  have:=each q k.toNat ((Int.toNat_lt hk.lo).mpr hk.hi) v
  rwa [A0g hk.lo] at this
theorem Xi(q:∀i v,Zx i→Q (.int i) (st.w v)):cN (r+2) 817 [.tag .one] (st.w v0) Q X:=
 Za (ns:=5) rfl rfl (Z4 (n:=3) (by decide) ⟨fun v=>Yz (m:=4294967296) (by decide) fun k w hk=>q (4294967295 - k) _ ⟨by have:=hk.hi;omega,by have:=hk.lo;omega⟩,
  fun v=>Z4 (n:=4) (by decide) ⟨fun w=>q 16384 _ (.lit rfl),fun w=>q 16383 _ (.lit rfl),fun w=>q 128 _ (.lit rfl),fun w=>q 127 _ (.lit rfl),trivial⟩,
  fun v=>Yz (m:=4) (by decide) fun k w hk=>q k _ ⟨hk.lo,by have:=hk.hi;omega⟩,trivial⟩)
theorem QY(q:∀(x:Tx) v,Q (.str x.s) (st.w v)):cN (r+2) 810 [.tag .one] (st.w v0) Q X:=
 Za (ns:=4) rfl rfl (Z4 (n:=5) (by decide) ⟨q .go,q .eu,q .eb,q .e,q .a,trivial⟩)
theorem kind_any(q:∀k v,Kd k→Q (.int k) (st.w v)):cN (r+2) 831 [.tag .one] (st.w v0) Q X:=
 Za (ns:=4) rfl rfl (Z4 (n:=4) (by decide) ⟨fun v=>q _ v .d,fun v=>q _ v .c,fun v=>q _ v .b,fun v=>q _ v .a,trivial⟩)
theorem Kw(q:∀i v,Eg i→Q (.int i) (st.w v)):cN (r+2) 824 [.tag .one,.d (.int 32)] (st.w v0) Q X:=
 Za (ns:=6) rfl rfl (Z4 (n:=3) (by decide) ⟨fun v=>Yz (m:=4294967296) (by decide) fun k w hk=>q (k - 2147483648) _ ⟨by have:=hk.lo;omega,by have:=hk.hi;omega⟩,
  fun v=>Z4 (n:=8) (by decide) ⟨fun w=>q (-8193) _ (.lit rfl),fun w=>q (-8192) _ (.lit rfl),fun w=>q 8192 _ (.lit rfl),fun w=>q 8191 _ (.lit rfl),fun w=>q (-65) _ (.lit rfl),fun w=>q (-64) _ (.lit rfl),fun w=>q 64 _ (.lit rfl),fun w=>q 63 _ (.lit rfl),trivial⟩,
  fun v=>Yz (m:=5) (by decide) fun k w hk=>q (k - 2) _ ⟨by have:=hk.lo;omega,by have:=hk.hi;omega⟩,trivial⟩)
theorem signed64(q:∀i v,O5 i→Q (.int i) (st.w v)):cN (r+2) 824 [.tag .one,.d (.int 64)] (st.w v0) Q X:=
 Za (ns:=6) rfl rfl (Z4 (n:=3) (by decide) ⟨fun v=>Yz (m:=18446744073709551616) (by decide) fun k w hk=>q (k - 9223372036854775808) _ ⟨by have:=hk.lo;omega,by have:=hk.hi;omega⟩,
  fun v=>Z4 (n:=8) (by decide) ⟨fun w=>q (-8193) _ (.lit rfl),fun w=>q (-8192) _ (.lit rfl),fun w=>q 8192 _ (.lit rfl),fun w=>q 8191 _ (.lit rfl),fun w=>q (-65) _ (.lit rfl),fun w=>q (-64) _ (.lit rfl),fun w=>q 64 _ (.lit rfl),fun w=>q 63 _ (.lit rfl),trivial⟩,
  fun v=>Yz (m:=5) (by decide) fun k w hk=>q (k - 2) _ ⟨by have:=hk.lo;omega,by have:=hk.hi;omega⟩,trivial⟩)
theorem OU(q:∀ks v,ZI 2 Kd ks→Q (.tup (ks.map .int)) (st.w v)):cN (r+3) 836 [.tag .one] (st.w v0) Q X:=
 Za (ns:=4) rfl rfl (Z4 (n:=3) (by decide) ⟨fun v=>q [] v ⟨by decide,.nil⟩,fun v=>kind_any fun k v hk=>kind_any fun k2 v h2=>q [k,k2] v ⟨by show 2≤2;decide,.cons hk (.cons h2 .nil)⟩,
  fun v=>kind_any fun k v hk=>q [k] v ⟨by show 1≤2;decide,.cons hk .nil⟩,trivial⟩)
theorem UO(q:∀a b v,Zx a→Ed Zx b→Q (.tup [.int a,SI b]) (st.w v)):cN (r+3) 843 [.tag .one] (st.w v0) Q X:=
 Za (ns:=5) rfl rfl (Xi fun a v ha=>Z4 (n:=2) (by decide) ⟨fun v=>Xi fun b v hb=>q a (some b) v ha (.so hb),fun v=>q a none v ha .no,trivial⟩)
theorem TK(q:∀l v,Zz l→Q (XG l) (st.w v)):cN (r+3) 850 [.tag .one] (st.w v0) Q X:=
 Za (ns:=5) rfl rfl (Z4 (n:=4) (by decide) ⟨fun v=>Xi fun a v ha=>Kw fun b v hb=>q [.glob a,.Dx b,.add] v ⟨by show 3≤3;decide,.cons ha (.cons hb (.cons trivial .nil))⟩,
  fun v=>Xi fun a v ha=>q [.glob a] v ⟨by show 1≤3;decide,.cons ha .nil⟩,fun v=>signed64 fun a v ha=>q [.Cu a] v ⟨by show 1≤3;decide,.cons ha .nil⟩,
  fun v=>Kw fun a v ha=>q [.Dx a] v ⟨by show 1≤3;decide,.cons ha .nil⟩,trivial⟩)
theorem Ui{s:Nat}(hs:s<4):(∀(x:Ab) v,x.Ok→x.sort=s→Q x.d (st.w v))→cN (r+4) 869 [.tag .one,.d (.int s)] (st.w v0) Q X:=
 each (n:=4) (P:=fun s=>(∀(x:Ab) v,x.Ok→x.sort=s→Q x.d (st.w v))→cN (r+4) 869 [.tag .one,.d (.int s)] (st.w v0) Q X) ⟨fun q=>Za (ns:=6) rfl rfl (kind_any fun k v hk=>Z4 (n:=2) (by decide) ⟨fun v=>q (.glob k 1) v (.glob hk .b) rfl,fun v=>q (.glob k 0) v (.glob hk .a) rfl,trivial⟩),
  fun q=>Za (ns:=6) rfl rfl (UO fun a b v ha hb=>q (.mem a b) v (.mem ha hb) rfl),
  fun q=>Za (ns:=6) rfl rfl (Z4 (n:=2) (by decide) ⟨fun v=>UO fun a b v ha hb=>q (.tab (-17) a b) v (.tab .b ha hb) rfl,fun v=>UO fun a b v ha hb=>q (.tab (-16) a b) v (.tab .a ha hb) rfl,trivial⟩),
  fun q=>Za (ns:=6) rfl rfl (Xi fun a v ha=>q (.idx a) v (.idx ha) rfl),trivial⟩ s hs
noncomputable def Z1:Nat→PS→PS
 |n+1,.seq _ b=>Z1 n b
 |_,p=>p
noncomputable def Ye:PS→PS
 | .seq a _=>a
 |p=>p
noncomputable def sL:PS→PE
 | .set _ e=>e
 |_=> .bad
noncomputable def VD:PS→PS
 | .VC _ _ b=>b
 | .wh _ b=>b
 | .ite _ a _=>a
 |p=>p
theorem OT{x:Int}(h:In 0 256 x):By x:=by show(decide _&&decide _)=true;rw[decide_eq_true h.lo,decide_eq_true h.hi];rfl
theorem Gj{l:List Int}(h:All By l):l.all ZR=true:=by induction h with|nil=>rfl|cons a _ ih=>rw[List.all_cons,a,ih];rfl
noncomputable def Adu:PE:=sL (Ye (Z1 2 Wb))
theorem QW{a b:Option S}{Q:S→St→Prop}(q:∀bs v,ZI 3 By bs→Q (.d (.bytes bs)) (st.w v)):Xu (cx (r+1)) Adu [some (.tag .one),a,b,none,none,none,none] (st.w v0) Q X:=by
 have p:∀{v0:Int} {Q:D→St→Prop} {X:Xp},(∀k v,By k→Q (.int k) (st.w v))→cN (r+1) 796 [.tag .one,.d (.int 256)] (st.w v0) Q X:=fun q=>Yz (m:=256) (by decide) fun k v hk=>q k v (OT hk)
 have fin:∀{bs:List Int} {v:Int},bs.length≤3→All By bs→W2 (bs.all ZR) (Q (.d (.bytes bs)) (st.w v)):=fun hl ha=>Z5 (Gj ha) (q _ _ ⟨hl,ha⟩)
 exact Z4 (n:=4) (by decide) ⟨fun v=>p fun a v ha=>fin (bs:=[a]) (by show 1≤3;decide) (.cons ha .nil),fun v=>fin (bs:=[]) (by decide) .nil,
  fun v=>p fun a v ha=>p fun b v hb=>p fun c v hc=>fin (bs:=[a,b,c]) (by show 3≤3;decide) (.cons ha (.cons hb (.cons hc .nil))),
  fun v=>p fun a v ha=>p fun b v hb=>fin (bs:=[a,b]) (by show 2≤3;decide) (.cons ha (.cons hb .nil)),trivial⟩
noncomputable def Adt:PE:=sL (Ye (Z1 1 Wb))
theorem Gi{e:Ev}{Q:S→St→Prop}(q:∀m v,Zx m→Q (.d (.int m)) (st.w v)):Xu (cx (r+3)) Adt (some (.tag .one)::some (.d (.int 1))::e) (st.w v0) Q X:=
 Z4 (r:=r+2) (n:=2) (by decide) ⟨fun v=>Xi (r:=r+1) fun m v hm=>q m v hm,fun v=>q 0 v (.lit rfl),trivial⟩
theorem Ct(q:∀(x:Dt) v,x.Ok→Q x.d (st.w v)):cN (r+4) 862 [.tag .one] (st.w v0) Q X:=by
 have act:∀{m v0:Int},Zx m→wpS (cx (r+3)) (Z1 2 Wb) [some (.tag .one),some (.d (.int 1)),some (.d (.int m)),none,none,none,none] (st.w v0) (fun _ st=>Q .none st) Q X:=fun hm=>
  QW (r:=r+2) fun bs v hb=>TK fun l v hl=>q ⟨_,some l,bs⟩ v (.act hm hl hb)
 exact Za (ns:=7) rfl rfl (Z4 (n:=2) (by decide) ⟨fun v=>QW (r:=r+2) fun bs v hb=>q ⟨0,none,bs⟩ v (.cM hb),
  fun v=>Gi fun m v hm=>ZQ (by exact act hm),trivial⟩)
set_option genCtorIdx true in
inductive W|a|b|c
noncomputable def W.i:W→Int| .a=>0| .b=>1| .c=>2
noncomputable def W.k:W→Int| .c=> -17|_=> -16
theorem W.rk(w:W):Rk w.k:=by cases w;exact .a;exact .a;exact .b
noncomputable def lY:PS:=VD (Ye (Z1 5 ZX))
noncomputable abbrev Ks(md tb:Int)(w:W)(l:List Zm)(a b c:Option S):Ev:=[some (.tag .one),some (.d (.int md)),some (.d (.int tb)),some (.d (.int w.i)),some (.d (.int w.k)),some (.own (l.map fun i=>XG [i])),a,b,c,none,none,none]
theorem QX{md tb:Int}{w:W}{l:List Zm}{a b c:Option S}{N:Ev→St→Prop}{R:D→St→Prop}(hl:l.length≤1)(q:∀i b c v,i.Ok→N (Ks md tb w (l++[i]) a b c) (st.w v)):
  wpS (cx (r+3)) lY (Ks md tb w l a b c) (st.w v0) N R X:=by
 have fin:∀{i:Zm} {b c:Option S} {v:Int},i.Ok→lim ((l.map fun i=>XG [i]).length+1) (N [some (.tag .one),some (.d (.int md)),some (.d (.int tb)),some (.d (.int w.i)),some (.d (.int w.k)),some (.own (l.map (fun i=>XG [i])++[XG [i]])),a,b,c,none,none,none] (st.w v)):=fun {i b c v} hi=>
  Zr (by rw[aq];exact ao (cj hl) (by decide)) (by have:=q i b c v hi;unfold Ks at this;rwa [bf] at this)
 refine Xi (r:=r+1) fun i v hi=> ?_
 cases w with
 |a=>exact Z4 (r:=r+2) (n:=1) (by decide) ⟨fun v=>fin (i:= .fn i) hi,trivial⟩
 |b=>exact Z4 (r:=r+2) (n:=3) (by decide) ⟨fun v=>fin (i:= .glob i) hi,fun v=>fin (i:= .null (-16)) .a,fun v=>fin (i:= .fn i) hi,trivial⟩
 |c=>exact Z4 (r:=r+2) (n:=2) (by decide) ⟨fun v=>fin (i:= .glob i) hi,fun v=>fin (i:= .null (-17)) .b,trivial⟩
theorem YJ{md tb:Int}{p:PS}(w:W)(q:∀Yg a b c v,ZI 2 Zm.Ok Yg→wpS (cx (r+3)) (Z1 6 ZX) (Ks md tb w Yg a b c) (st.w v) (fun _ st=>Q .none st) Q X)(hp:p=Z1 3 ZX):
  wpS (cx (r+3)) p [some (.tag .one),some (.d (.int md)),some (.d (.int tb)),some (.d (.int w.i)),none,none,none,none,none,none,none,none] (st.w v0) (fun _ st=>Q .none st) Q X:=by
 subst hp
 have fin:dH (fun k=>∀v:Int,XV (fun env st k=>wpS (cx (r+3)) lY env st k Q X) [6] (YO ((1+(k:Int)).fmod 3).toNat) (Ks md tb w [] none none none) (st.w v) (fun env st=>wpS (cx (r+3)) (Z1 6 ZX) env st (fun _ st=>Q .none st) Q X)) 3:=⟨fun v=>q [] _ _ _ v ⟨by decide,.nil⟩,
  fun v=>QX (l:=[]) (by decide) fun i b c v hi=>QX (l:=[i]) (ew 1) fun j b c v hj=>q [i,j] _ _ _ v ⟨ew 2,.cons hi (.cons hj .nil)⟩,
  fun v=>QX (l:=[]) (by decide) fun i b c v hi=>q [i] _ _ _ v ⟨by show 1≤2;decide,.cons hi .nil⟩,trivial⟩
 cases w with
 |a=>exact Z4 (r:=r+2) (n:=3) (by decide) fin
 |b=>exact Z4 (r:=r+2) (n:=3) (by decide) fin
 |c=>exact Z4 (r:=r+2) (n:=3) (by decide) fin
theorem Cs(q:∀(x:El) v,x.Ok→Q x.d (st.w v)):cN (r+4) 857 [.tag .one] (st.w v0) Q X:=by
 have act:∀{m v0:Int},Zx m→wpS (cx (r+3)) (Z1 2 ZX) [some (.tag .one),some (.d (.int 1)),some (.d (.int m)),none,none,none,none,none,none,none,none,none] (st.w v0) (fun _ st=>Q .none st) Q X:=fun {m v0} hm=>by
  have k:∀w is a b c v,ZI 2 Zm.Ok is→wpS (cx (r+3)) (Z1 6 ZX) (Ks 1 m w is a b c) (st.w v) (fun _ st=>Q .none st) Q X:=fun w is a b c v hi=>by refine TK fun l v hl=> ?_;exact q ⟨1,m,some l,w.k,is⟩ v (.act hm hl w.rk hi)
  exact Z4 (r:=r+2) (n:=3) (by decide) ⟨fun v=>ZQ (by exact YJ .c (k .c) rfl),fun v=>ZQ (by exact YJ .b (k .b) rfl),fun v=>ZQ (by exact YJ .a (k .a) rfl),trivial⟩
 have p:∀w is a b c v,ZI 2 Zm.Ok is→wpS (cx (r+3)) (Z1 6 ZX) (Ks 0 0 w is a b c) (st.w v) (fun _ st=>Q .none st) Q X:=fun w is a b c v hi=>q ⟨0,0,none,w.k,is⟩ v (.cM w.rk hi)
 have d:∀w is a b c v,ZI 2 Zm.Ok is→wpS (cx (r+3)) (Z1 6 ZX) (Ks 2 0 w is a b c) (st.w v) (fun _ st=>Q .none st) Q X:=fun w is a b c v hi=>q ⟨2,0,none,w.k,is⟩ v (.dec w.rk hi)
 exact Za (ns:=12) rfl rfl (Z4 (n:=3) (by decide) ⟨fun v=>Z4 (r:=r+2) (n:=3) (by decide) ⟨fun v=>ZQ (by exact YJ .c (d .c) rfl),fun v=>ZQ (by exact YJ .b (d .b) rfl),fun v=>ZQ (by exact YJ .a (d .a) rfl),trivial⟩,
  fun v=>Z4 (r:=r+2) (n:=3) (by decide) ⟨fun v=>ZQ (by exact YJ .c (p .c) rfl),fun v=>ZQ (by exact YJ .b (p .b) rfl),fun v=>ZQ (by exact YJ .a (p .a) rfl),trivial⟩,
  fun v=>Gi fun m v hm=>ZQ (by exact act hm),trivial⟩)
theorem Ef{k:Nat}(hk:k<8):(∀(t:Th) v,t.Ok→t.sort=k→Q t.d (st.w v))→cN (r+5) 876 [.tag .one,.d (.int k)] (st.w v0) Q X:=
 each (n:=8) (P:=fun k=>(∀(t:Th) v,t.Ok→t.sort=k→Q t.d (st.w v))→cN (r+5) 876 [.tag .one,.d (.int k)] (st.w v0) Q X) ⟨fun q=>by
  have ix:∀{a:Tx} {s:Fin 4} {v0:Int},cN (r+4) 817 [.tag .one] (st.w v0) (fun d st=>Q (.tup [.str a.s,.int s.val,d]) st) X:=fun {a s v0}=>Xi (r:=r+2) fun i v h=>q (.exp a s i) v (.exp h) rfl
  exact Za (ns:=10) rfl rfl (QY fun a v=>Z4 (n:=4) (by decide) ⟨fun v=>ix (s:=3),fun v=>ix (s:=2),fun v=>ix (s:=1),fun v=>ix (s:=0),trivial⟩),
 fun q=>Za (ns:=10) rfl rfl (Ui (s:=3) (by decide) fun x v h e=>by cases h with|glob a b=>exact q (.glob _ _) v (.glob a b) rfl|_=>cases e),
 fun q=>Za (ns:=10) rfl rfl (Ui (s:=2) (by decide) fun x v h e=>by cases h with|mem a b=>exact q (.mem _ _) v (.mem a b) rfl|_=>cases e),
 fun q=>Za (ns:=10) rfl rfl (Ui (s:=1) (by decide) fun x v h e=>by cases h with|tab a b c=>exact q (.tab _ _ _) v (.tab a b c) rfl|_=>cases e),
 fun q=>Za (ns:=10) rfl rfl (OU fun a v ha=>OU fun b v hb=>q (.typ a b) v (.typ ha hb) rfl),
 fun q=>by
  have ab:∀{a b:Tx} {s:Nat} {v0:Int} (hs:s<4),cN (r+4) 869 [.tag .one,.d (.int s)] (st.w v0) (fun d st=>Q (.tup [.str a.s,.str b.s,.int s,d]) st) X:=fun {a b s v0} hs=>Ui hs fun x v h e=>e▸q (.imp a b x) v (.imp h) rfl
  exact Za (ns:=10) rfl rfl (QY fun a v=>QY fun b v=>Z4 (n:=4) (by decide) ⟨fun v=>ab (s:=0) (by decide),fun v=>ab (s:=3) (by decide),fun v=>ab (s:=2) (by decide),fun v=>ab (s:=1) (by decide),trivial⟩),
 fun q=>Za (ns:=10) rfl rfl (Ct fun x v h=>q (.data x) v (.data h) rfl),
 fun q=>Za (ns:=10) rfl rfl (Cs fun x v h=>q (.elem x) v (.elem h) rfl),
 trivial⟩ k hk
end
end
section
open PyProof.Rows PySem PySem.W
theorem UQ(k:Nat):(0:Int)<128^k:=Int.pow_pos (by decide)
theorem QZ(k:Nat):(128:Int)^(k+1)=128^k*128:=Int.pow_succ ..
theorem Wk(n:Int)(k:Nat):In 0 128 (U3 n k):=⟨Int.emod_nonneg _ (by decide),Int.emod_lt_of_pos _ (by decide)⟩
theorem YV{n:Int}{m k:Nat}(h:k+1=m):Vk n m k=U3 n k:=by unfold Vk;rw[if_neg (by omega),qa]
theorem WG{n:Int}{m k:Nat}(h:k+1<m):Vk n m k=U3 n k+128:=by unfold Vk;rw[if_pos h]
theorem Gk(n:Int)(m k:Nat):fy (Vk n m k) 127=U3 n k:=by
 rw[bitAnd_m7];unfold Vk U3;split
 ·rw[Int.add_emod_right,Int.emod_emod]
 ·rw[qa,Int.emod_emod]
theorem C0{n:Int}{m k:Nat}(hk:k<m)(b:Vk n m k<128):k+1=m:=(x6 hk).elim (fun c=>absurd (WG c▸b) (mh.mpr (Int.le_add_of_nonneg_left (Wk n k).lo))) id
theorem Cv{n:Int}{m k:Nat}(hk:k<m)(b:¬Vk n m k<128):k+1<m:=(x6 hk).elim id fun c=>absurd ((YV c).symm▸(Wk n k).hi) b
theorem VJ{n:Int}{m k:Nat}:By (Vk n m k):=by
 have h1:=(Wk n k).lo;have h2:=(Wk n k).hi
 apply OT;unfold Vk;split<;>constructor<;>omega
noncomputable def low(n:Int)(k:Nat):Int:=n%128^k
theorem Ky(n:Int):low n 0=0:=Int.emod_one _
theorem dO{n a b q d m s:Int}(h1:a*q+m=n)(h2:b*s+d=q)(hm:In 0 a m)(hd:In 0 b d):m+d*a=n%(a*b):=by
 have hl:d*a≤(b - 1)*a:=Int.mul_le_mul_of_nonneg_right (Int.le_sub_one_of_lt hd.hi) (ja hm.lo (kg hm.hi))
 rw[Int.sub_mul,Int.one_mul,z3 b a] at hl
 have e:n=m+d*a+a*b*s:=by rw[← h1,← h2,Int.mul_add,z3 d a,← Int.mul_assoc,w7 (a*b*s),w7 _ m,← uy]
 rw[e,x8,nk]
 ·exact Int.add_nonneg hm.lo (Int.mul_nonneg hd.lo (ja hm.lo (kg hm.hi)))
 ·exact j6 (Int.add_lt_add_right hm.hi _) (xr hl)
theorem sP(n:Int)(k:Nat):In 0 (128^k) (low n k):=⟨Int.emod_nonneg _ (w6 (UQ k)),Int.emod_lt_of_pos _ (UQ k)⟩
theorem Kx(n:Int)(k:Nat):low n k+U3 n k*128^k=low n (k+1):=by
 unfold low
 rw[QZ]
 exact dO (zw n _) (zw (n/128^k) 128) (sP n k) (Wk n k)
theorem dK{n:Int}{m:Nat}(h:In 0 (128^m) n):low n m=n:=nk h.lo h.hi
theorem sN(d:Int){s:Int}{k:Nat}(h:s=7*k):d*2^s.toNat=d*128^k:=by rw[h,show(7*(k:Int)).toNat=7*k from rfl,Int.pow_mul];rfl
theorem I6{s:Int}{k:Nat}(hs:s=7*k)(hk:k≤10){x:Int}(hx:x.natAbs<2^60):(decide (0≤s)&&(decide (s≤1000)&&decide (x.natAbs<2^60)))=true:=by
 subst hs
 rw[decide_eq_true (show 0≤7*(k:Int) from iu (7*k)),decide_eq_true (show 7*(k:Int)≤1000 from ja (kh.mpr (Nat.mul_le_mul_left 7 hk)) (by decide)),decide_eq_true hx];rfl
theorem Gl(n:Int)(k:Nat):(U3 n k).natAbs<2^60:=by have:=(Wk n k).lo;have:=(Wk n k).hi;omega
noncomputable abbrev St.c(st:St)(O:List Int)(p e:Int):St:={st with cur:=some (O,p,e)}
noncomputable abbrev U0:Str:="unexpected end"
structure At(O:List Int)(p e:Int)(l:List Int):Prop where
 lo:0≤p
 hi:e≤O.length
 get:∀(i:Nat) (x:Int),l[i]?=some x→p+i<e→O[(p+i).toNat]?=some x
structure RS(O:List Int)(e pE:Int)(X:Xp)(st:St)(p:Int)(m:List Int):Prop where
 at_:At O p e m
 le:p≤e
 fin:p+m.length=pE
 Mn:e<pE→∀a,X 0 U0 e (st.c O a e)
section
variable{r:Nat}{st:St}{O l m:List Int}{p e pE x:Int}{Q:D→St→Prop}{X:Xp}{a b:List Int}
theorem adv(p:Int)(i:Nat):p+((i+1:Nat):Int)=p+1+i:=(congrArg (p+ ·) (w7 i 1)).trans (uy p 1 i).symm
theorem At.tail(h:At O p e (x::l)):At O (p+1) e l:=⟨Int.le_add_one h.lo,h.hi,fun i y hy hi=>adv p i▸h.get (i+1) y hy ((adv p i).symm▸hi)⟩
theorem RS.as(h:RS O e pE X st p ((a++b)++m)):RS O e pE X st p (a++(b++m)):=b8 a b m▸h
theorem RS.tail(h:RS O e pE X st p (x::l))(hl:p<e):RS O e pE X st (p+1) l:=⟨h.at_.tail,hl,(adv p l.length).symm.trans h.fin,h.Mn⟩
theorem RS.hd(h:RS O e pE X st p (x::l))(hl:p<e):O[p.toNat]?=some x:=have e:p+((0:Nat):Int)=p:=qa p;e▸h.at_.get 0 x rfl (e.symm▸hl)
theorem RS.out(h:RS O e pE X st p (x::l))(hl:e≤p)(q:Int):X 0 U0 p (st.c O q e):=by
 rw[Int.le_antisymm h.le hl];exact h.Mn (mj hl (h.fin▸Int.lt_add_of_pos_right p (zj.mpr (qb _)))) q
structure Rd(n f:Nat)(as:List S)(l:List Int)(v:D):Prop where
 go:∀{r:Nat} {st:St} {O:List Int} {p e pE:Int} {Q:D→St→Prop} {X:Xp} {m:List Int},RS O e pE X st p (l++m)→(∀p',RS O e pE X st p' m→Q v (st.c O p' e))→cN (r+n) f (.tag .cur::as) (st.c O p e) Q X
theorem dN(h:RS O e pE X st p (x::l))(q:p<e→Q (.int x) (st.c O p e)):cN (r+1) 606 [.tag .cur] (st.c O p e) Q X:=
 Za (ns:=4) rfl rfl (Zu (b:=decide (e≤p)) (fun b=>h.out (of_decide_eq_true b) p) fun b=>Z5 (decide_eq_true h.at_.lo) (Yh (h.hd (jc.mp (of_decide_eq_false b))) (q (jc.mp (of_decide_eq_false b)))))
theorem Yw{x:Int}:Rd 2 613 [] [x] (.int x):=⟨fun {r st O p e pE Q X m} h q=>Za (ns:=5) rfl rfl (dN (l:=m) h fun hl=>q _ (h.tail hl))⟩
noncomputable def Adw:PS:=VD (Ye (Z1 1 Wh))
noncomputable def Adx:PS:=VD (Ye (Z1 1 WD))
noncomputable abbrev Pa(bits f s q:Int)(a b:Option S):Ev:=[some (.tag .cur),some (.d (.int bits)),some (.d (.int f)),some (.d (.int s)),some (.d (.int q)),a,b,none,none,none]
abbrev whl(C:Cx)(b:PS)(R:D→St→Prop)(X:Xp)(F:Nat)(env:Ev)(st:St)(N:Ev→St→Prop):Prop:=NS (fun env st k=>L6 C (.lit (.bool true)) env st k X) (fun env st k=>wpS C b env st k R X) F env st N
theorem Adv{n:Int}(h:Zx n):(U3 n 4).fdiv (2^(4:Int).toNat)=0:=by
 have h1:=h.lo;have h2:=h.hi
 rw[jr _ (by decide)]
 have l:n/268435456<16:=(m7 (by decide)).mpr h2
 show(n/268435456%128)/16=0
 rw[nk (vm h1 (by decide)) (u0 l (by decide))]
 exact Int.ediv_eq_zero_of_lt (vm h1 (by decide)) l
theorem Aa4{s:Int}{k:Nat}(hs:s=7*k)(hk:k<5)(h:32 - s≤7):k=4:=by omega
theorem C2{n:Int}{k m:Nat}(h32:Zx n)(hm:m≤5)(hn:low n m=n)(hk:k<m){f s q p:Int}{s5 s6:Option S}(hf:f=low n k)(hs:s=7*k){R:D→St→Prop}{N:Ev→St→Prop}(h:RS O e pE X st p (Vk n m k::l))
  (hR:k+1=m→∀p,RS O e pE X st p l→R (.int n) (st.c O p e))
  (hN:k+1<m→∀f s a b p,f=low n (k+1)→s=7*((k+1:Nat):Int)→RS O e pE X st p l→N (Pa 32 f s q a b) (st.c O p e)):wpS (cx (r+2)) Adw (Pa 32 f s q s5 s6) (st.c O p e) N R X:=by
 have hd:=Wk n k
 have key:fy (Vk n m k) 127=U3 n k:=Gk n m k
 have eL:f+fy (Vk n m k) 127*2^s.toNat=low n (k+1):=by rw[key,sN _ hs,hf,Kx]
 have k5:k<5:=gv hk hm
 have fin:k=4→decide (128≤Vk n m k)=false:=fun e4=>decide_eq_false (by rw[YV (zk hk (e4▸hm))];exact jc.mpr hd.hi)
 refine Yw.go h fun p1 h1=> ?_
 refine NO (b:=decide (32 - s<7)) (fun a g=> ?_) ?_
 ·have e4:=Aa4 hs k5 (kg (of_decide_eq_true a))
  refine Z5 (b:=decide (0≤32 - s)) (by rw[hs,e4];rfl) (Zn ?_ g)
  rw[key,e4,hs,e4]
  show(!decide ((U3 n 4).fdiv (2^(4:Int).toNat)=0))=false
  rw[decide_eq_true (Adv h32)];rfl
 refine NO (b:=decide (32 - s≤7)) (fun a g=>Zn (b:=decide (128≤Vk n m k)) (fin (Aa4 hs k5 (of_decide_eq_true a))) g) ?_
 refine Z5 (b:=decide (0≤s)&&(decide (s≤1000)&&decide ((fy (Vk n m k) 127).natAbs<2^60))) ?_ ?_
 ·rw[key];exact I6 hs (ao (rj k5) (by decide)) (Gl n k)
 refine Zu (b:=decide (Vk n m k<128)) (fun b=> ?_) fun b=> ?_
 ·have:=C0 hk (of_decide_eq_true b)
  show R (.int (f+fy (Vk n m k) 127*2^s.toNat)) _
  rw[eL,this,hn];exact hR this _ h1
 ·exact hN (Cv hk (of_decide_eq_false b)) _ _ _ _ _ eL (hs▸rfl) h1
theorem Aa2:∀x:Nat,x<128→(fy (x:Int) 64 !=0)=decide (64≤x):=by decide+kernel
theorem Eh(n:Int)(k:Nat):(fy (U3 n k) 64 !=0)=decide (64≤U3 n k):=by
 have h:=Wk n k
 have h0:=h.lo
 obtain⟨x,hx⟩:=oj h.lo
 rw[hx,Aa2 x (by have:=h.hi;omega)]
 exact decide_eq_decide.mpr (by omega)
theorem Mq{n:Int}{k:Nat}(h:In (-(64*128^k)) (64*128^k) n):In (-64) 64 (n/128^k):=
 ⟨(qc (UQ k)).mpr (Int.neg_mul_eq_neg_mul 64 _▸h.lo),(m7 (UQ k)).mpr h.hi⟩
theorem dP{n:Int}{k:Nat}(h:In (-(64*128^k)) (64*128^k) n)(hs:64≤U3 n k):low n (k+1) - 1*128^(k+1)=n:=by
 have h1:=Mq h
 have h2:=h1.lo;have h3:=h1.hi;have h4:=h.lo;have hp:=UQ k
 unfold U3 at hs
 have:n/128^k<0:=by omega
 have hn:n<0:=by
  by_cases c:n<0
  ·exact c
  ·have:=vm (a:=n) (b:=128^k) (by omega) (kg hp);omega
 unfold low
 rw[QZ]
 generalize (128:Int)^k=P at*
 rw[show n=(n+P*128)+P*128*(-1) by omega,x8,nk (by omega) (by omega)]
 omega
theorem dI{n:Int}{k:Nat}(h:In (-(64*128^k)) (64*128^k) n)(hs:¬64≤U3 n k):low n (k+1)=n:=by
 have h1:=Mq h
 have h2:=h1.lo;have h3:=h1.hi;have h4:=h.hi;have hp:=UQ k
 unfold U3 at hs
 have:0≤n/128^k:=by omega
 have hn:0≤n:=by
  by_cases c:n<0
  ·have:=Int.ediv_neg_of_neg_of_pos c hp;omega
  ·omega
 unfold low
 rw[QZ]
 exact nk hn (by omega)
structure dJ(n bits:Int)(k:Nat):Prop where
 lo:bits - 7*k<7→0≤bits - 7*k - 1
 eq:bits - 7*k<7→(!([0,(127:Int).fdiv (2^(bits - 7*k - 1).toNat)]:List Int).any (· ==(U3 n k).fdiv (2^(bits - 7*k - 1).toNat)))=false
 last:bits - 7*k≤7→U3 n k<128→∀m,k<m→7*m≤bits+6→k+1=m
theorem C4{n bits:Int}{k m:Nat}(hm:m≤10)(hb:7*m≤bits+6)(hS:dJ n bits k)(hn:k+1=m→In (-(64*128^k)) (64*128^k) n)(hk:k<m){f s q p:Int}{s5 s6:Option S}(hf:f=low n k)(hs:s=7*k){R:D→St→Prop}{N:Ev→St→Prop}(h:RS O e pE X st p (Vk n m k::l))
  (hR:k+1=m→∀p,RS O e pE X st p l→R (.int n) (st.c O p e))
  (hN:k+1<m→∀f s a b p,f=low n (k+1)→s=7*((k+1:Nat):Int)→RS O e pE X st p l→N (Pa bits f s q a b) (st.c O p e)):wpS (cx (r+2)) Adx (Pa bits f s q s5 s6) (st.c O p e) N R X:=by
 have hd:=Wk n k
 have key:fy (Vk n m k) 127=U3 n k:=Gk n m k
 have eL:f+fy (Vk n m k) 127*2^s.toNat=low n (k+1):=by rw[key,sN _ hs,hf,Kx]
 have s7:s+7=7*((k+1:Nat):Int):=hs▸rfl
 refine Yw.go h fun p1 h1=> ?_
 refine NO (b:=decide (bits - s<7)) (fun a g=> ?_) ?_
 ·subst hs
  have a:=of_decide_eq_true a
  have l0:=decide_eq_true (hS.lo a)
  refine Z5 l0 (Z5 l0 (Zn ?_ g))
  rw[key]
  exact hS.eq a
 refine NO (b:=decide (bits - s≤7)) (fun a g=>Zn (b:=decide (128≤Vk n m k)) (decide_eq_false ?_) g) ?_
 ·have:=hS.last (by rw[← hs];exact of_decide_eq_true a) hd.hi m hk hb
  rw[YV this];exact jc.mpr hd.hi
 refine Z5 (b:=decide (0≤s)&&(decide (s≤1000)&&decide ((fy (Vk n m k) 127).natAbs<2^60))) ?_ ?_
 ·rw[key];exact I6 hs (ao (rj hk) hm) (Gl n k)
 refine Zu (b:=decide (Vk n m k<128)) (fun b=> ?_) fun b=> ?_
 ·have hl:=C0 hk (of_decide_eq_true b)
  have fin:=hR hl _ h1
  refine Zu (b:=(fy (Vk n m k) 64 !=0)) (fun b=> ?_) fun b=> ?_<;>rw[YV hl,Eh] at b
  ·refine Z5 (b:=decide (0≤s+7)&&(decide (s+7≤1000)&&decide ((1:Int).natAbs<2^60))) (I6 s7 (ao hk hm) (by decide)) ?_
   show R (.int (f+fy (Vk n m k) 127*2^s.toNat - 1*2^(s+7).toNat)) _
   rw[eL,sN _ s7,dP (hn hl) (of_decide_eq_true b)];exact fin
  ·show R (.int (f+fy (Vk n m k) 127*2^s.toNat)) _
   rw[eL,dI (hn hl) (of_decide_eq_false b)];exact fin
 ·exact hN (Cv hk (of_decide_eq_false b)) _ _ _ _ _ eL s7 h1
theorem Kz{C:Cx}{b:PS}{n bits q:Int}{m:Nat}{R:D→St→Prop}{N:Ev→St→Prop}(hR:∀p,RS O e pE X st p l→R (.int n) (st.c O p e))
  (step:∀{k:Nat} {f s p:Int} {s5 s6:Option S} {l:List Int} {N:Ev→St→Prop},k<m→f=low n k→s=7*k→RS O e pE X st p (Vk n m k::l)→(k+1=m→∀p,RS O e pE X st p l→R (.int n) (st.c O p e))→
   (k+1<m→∀f s a b p,f=low n (k+1)→s=7*((k+1:Nat):Int)→RS O e pE X st p l→N (Pa bits f s q a b) (st.c O p e))→wpS C b (Pa bits f s q s5 s6) (st.c O p e) N R X):
  ∀{j k F:Nat} {f s p:Int} {s5 s6:Option S},k+(j+1)=m→j<F→f=low n k→s=7*k→RS O e pE X st p (QU n m k (j+1)++l)→whl C b R X F (Pa bits f s q s5 s6) (st.c O p e) N:=by
 intro j
 induction j with
 |zero=>
  intro k F f s p s5 s6 hk hF hf hs h
  cases F with
  |zero=>exact absurd hF (kj _)
  |succ F=>subst hk;exact step (gp k) hf hs h (fun _=>hR) fun hc=>absurd hc (kj _)
 |succ j ih=>
  intro k F f s p s5 s6 hk hF hf hs h
  cases F with
  |zero=>exact absurd hF (vn _)
  |succ F=>
   have hk2:k+1+(j+1)=m:=(w9 k (j+1)).trans hk
   have hk3:k+1<m:=hk2▸yt (qb j)
   exact step (Nat.lt_of_succ_lt hk3) hf hs h (fun hc=>absurd hc (ir hk3)) fun _ f s a b p hf hs h=>ih hk2 (gg hF) hf hs h
theorem K0{n:Int}{m:Nat}(h32:Zx n)(hm:m≤4)(hn:low n (m+1)=n):Rd 3 634 [.d (.int 32)] (groups n (m+1)) (.int n):=⟨fun h q=>
 Za (ns:=10) rfl rfl (Kz q (fun hk hf hs h hR hN=>C2 h32 (cj hm) hn hk hf hs h hR hN) (wc _) (bq hm (by decide)) (Ky n).symm rfl h)⟩
theorem OV{n bits:Int}{m:Nat}(hm:m≤9)(hb:7*((m+1:Nat):Int)≤bits+6)(hS:∀k,k≤m→dJ n bits k)(hn:In (-(64*128^m)) (64*128^m) n):Rd 3 641 [.d (.int bits)] (groups n (m+1)) (.int n):=⟨fun h q=>
 Za (ns:=10) rfl rfl (Kz q (fun {k _ _ _ _ _ _ _} hk hf hs h hR hN=>C4 (cj hm) hb (hS k (qq hk)) (fun e=>by rw[u5 e];exact hn) hk hf hs h hR hN) (wc _) (bq hm (by decide)) (Ky n).symm rfl h)⟩
theorem UP{T:Nat→Bool}{b:Nat}(hb:T b=false):∀{f k:Nat},k≤b→least T f k≤b
 |0,k,h=>h
 |f+1,k,h=>by
  unfold least
  cases e:T k with
  |false=>exact h
  |true=>exact UP hb (sq h fun q=>by rw[q,hb] at e;cases e)
theorem TN{T:Nat→Bool}:∀{f k:Nat},k≤least T f k
 |0,k=>ew _
 |f+1,k=>by
  unfold least
  cases e:T k with
  |false=>exact ew _
  |true=>exact ao (pq k) TN
theorem TM{T:Nat→Bool}:∀{f k:Nat},T (k+f)=false→T (least T f k)=false
 |0,k,h=>h
 |f+1,k,h=>by
  unfold least
  cases e:T k with
  |false=>exact e
  |true=>exact TM (k:=k+1) (by rw[w9];exact h)
theorem SJ{T:Nat→Bool}{i:Nat}:∀{f k:Nat},k≤i→i<least T f k→T i=true
 |0,k,h,h2=>absurd h2 (r8.mpr h)
 |f+1,k,h,h2=>by
  unfold least at h2
  cases e:T k with
  |false=>rw[e] at h2;exact absurd h2 (r8.mpr h)
  |true=>
   rw[e] at h2
   by_cases c:k=i
   ·rw[← c];exact e
   ·exact SJ (sq h c) h2
theorem K1{a b:Nat}(h:a≤b):(128:Int)^a≤128^b:=by
 induction h with
 |refl=>exact Int.le_refl _
 |@step m _ ih=>
  have h:=v5 (by decide:(1:Int)≤128) (kg (UQ m))
  rw[Int.mul_one] at h
  rw[QZ];exact ja ih h
theorem RW{n:Int}(h:Zx n):QV n 5=false:=decide_eq_false (jc.mpr (u0 h.hi (by decide)))
structure Aa1(b m:Nat):Prop where
 lo:1≤m
 hi:m≤b
theorem RY{n:Int}(h:Zx n):Aa1 5 (many n):=⟨TN,UP (RW h) (by decide)⟩
theorem C3{n:Int}(h:Zx n){a:Nat}(ha:many n≤a):low n a=n:=
 dK ⟨h.lo,j6 (jc.mp (of_decide_eq_false (TM (f:=4) (k:=1) (RW h)))) (K1 ha)⟩
theorem RZ{x:Nat}(h:1≤x):∃k,x=k+1:=⟨x - 1,(Nat.sub_add_cancel h).symm⟩
theorem Cw{a m p:Nat}(h1:1≤m)(h2:m≤a):∃k,min a (m+p)=k+1∧k+1≤a∧m≤k+1:=
 (RZ (Nat.le_min.mpr ⟨ao h1 h2,ao h1 (br m p)⟩)).imp fun _ e=>⟨e,e▸qg _ _,e▸Nat.le_min.mpr ⟨h2,br _ _⟩⟩
theorem ZN{n:Int}{pad:Nat}(h32:Zx n):Rd 4 648 [] (free n pad) (.int n):=by
 have hm:=RY h32
 obtain⟨k,hk,l1,l2⟩:=Cw (p:=pad) hm.lo hm.hi
 unfold free
 rw[hk]
 exact⟨fun h q=>Za (ns:=4) rfl rfl ((K0 (m:=k) h32 (iw l1) (C3 h32 l2)).go h q)⟩
def Mp(n:Int)(k:Nat):Prop:=In (-(64*128^(k - 1))) (64*128^(k - 1)) n
theorem VK{n:Int}{k:Nat}:OS n k=false↔Mp n k:=by
 unfold OS
 rw[A01,decide_eq_false_iff_not,decide_eq_false_iff_not,Int.neg_mul]
 exact⟨fun h=>⟨mh.mp h.1,jc.mp h.2⟩,fun h=>⟨mh.mpr h.lo,jc.mpr h.hi⟩⟩
theorem C5{n:Int}{a b:Nat}(h:Mp n a)(hab:a≤b):Mp n b:=by
 have h1:=K1 (Nat.sub_le_sub_right hab 1)
 have h2:=v5 h1 (by decide:(0:Int)≤64)
 exact⟨ja (Int.neg_le_neg h2) h.lo,j6 h.hi h2⟩
theorem OW{n:Int}(h:O5 n):Mp n 10:=⟨ja (by decide) h.lo,u0 h.hi (by decide)⟩
theorem Aa3{n:Int}(h:Eg n):Mp n 5:=⟨ja (by decide) h.lo,u0 h.hi (by decide)⟩
theorem Eg.wide{n:Int}(h:Eg n):O5 n:=⟨ja (by decide) h.lo,u0 h.hi (by decide)⟩
theorem WH{n:Int}{b:Nat}(h:Mp n b)(hb:1≤b):Aa1 b (Xx n):=⟨TN,UP (VK.mpr h) hb⟩
theorem OX{n:Int}(h:O5 n):Mp n (Xx n):=VK.mp (TM (f:=9) (k:=1) (VK.mpr (OW h)))
theorem Cz{n:Int}{bits pad:Nat}(h:O5 n)(hb:Xx n≤(bits+6)/7)(h2:(bits+6)/7≤10)(hS:∀k,k<(bits+6)/7→dJ n bits k):Rd 3 641 [.d (.int bits)] (own n bits pad) (.int n):=by
 have h1:=(WH (OW h) (by decide)).lo
 obtain⟨k,hk,l1,l2⟩:=Cw (p:=pad) h1 hb
 unfold own
 rw[hk]
 exact OV (m:=k) (iw (ao l1 h2)) (kh.mpr (Nat.mul_comm 7 (k+1)▸(Nat.le_div_iff_mul_le (by decide)).mp l1)) (fun i hi=>hS i (bq hi l1)) (C5 (OX h) (b:=k+1) l2)
theorem Ady{a b x:Int}(h:x=a∨x=b):(!([a,b]:List Int).any (· ==x))=false:=by rcases h with rfl|rfl<;>simp
theorem C1{n bits:Int}{j k:Nat}(h1:7*(j:Int)+1≤bits)(h2:bits≤7*j+7)
  (hx:bits - 7*j<7→(U3 n j).fdiv (2^(bits - 7*j - 1).toNat)=0∨(U3 n j).fdiv (2^(bits - 7*j - 1).toNat)=(127:Int).fdiv (2^(bits - 7*j - 1).toNat)) (hk:k≤j):dJ n bits k:=by
 by_cases c:k=j
 ·subst c;exact⟨fun _=>Int.sub_nonneg.mpr (xt h1),fun h=>Ady (hx h).symm.symm,fun _ _ m h3 h4=>by omega⟩
 ·have no:¬bits - 7*k≤7:=by omega
  exact⟨fun h=>absurd (kg h) no,fun h=>absurd (kg h) no,fun h=>absurd h no⟩
theorem Cy{n P:Int}{c:Nat}(hP:0<P)(h1: -(c:Int)*P≤n)(h2:n<c*P):∃y:Nat,y<2*c∧n/P=(y:Int) - c:=by
 have a:=(qc hP).mpr h1
 have b:=(m7 hP).mpr h2
 exact⟨(n/P+c).toNat,by omega,by omega⟩
theorem sg8:∀y:Nat,y<16→((y:Int) - 8)%128/8=0∨((y:Int) - 8)%128/8=15:=by decide
theorem sg1:∀y:Nat,y<2→((y:Int) - 1)%128/1=0∨((y:Int) - 1)%128/1=127:=by decide
theorem sO{n:Int}{pad:Nat}(h:Eg n):Rd 4 662 [] (own n 32 pad) (.int n):=
 ⟨fun a q=>Za (ns:=4) rfl rfl ((Cz (bits:=32) h.wide (WH (Aa3 h) (by decide)).hi (by decide) fun k hk=>C1 (j:=4) (by decide) (by decide) (fun _=>by
  have h1:=h.lo;have h2:=h.hi
  rw[jr _ (by decide)]
  show n/268435456%128/8=0∨n/268435456%128/8=15
  obtain⟨y,hy,e⟩:=Cy (P:=268435456) (c:=8) (by decide) h1 h2
  rw[e];exact sg8 y hy) (qq hk)).go a q)⟩
theorem sM{n:Int}{pad:Nat}(h:O5 n):Rd 4 676 [] (own n 64 pad) (.int n):=
 ⟨fun a q=>Za (ns:=4) rfl rfl ((Cz (bits:=64) h (WH (OW h) (by decide)).hi (by decide) fun k hk=>C1 (j:=9) (by decide) (by decide) (fun _=>by
  have h1:=h.lo;have h2:=h.hi
  rw[jr _ (by decide)]
  show n/9223372036854775808%128/1=0∨n/9223372036854775808%128/1=127
  obtain⟨y,hy,e⟩:=Cy (P:=9223372036854775808) (c:=1) (by decide) h1 h2
  rw[e];exact sg1 y hy) (qq hk)).go a q)⟩
theorem dM{n:Int}(h:In (-64) 0 n):groups n 1=[128+n]:=by
 have h1:=h.lo;have h2:=h.hi
 have e:U3 n 0=128+n:=by unfold U3;rw[Int.pow_zero,A0J];omega
 show[Vk n 1 0]=_
 rw[YV rfl,e]
theorem lZ{n:Int}(h:In (-64) 0 n):Rd 4 655 [] [128+n] (.int n):=
 ⟨fun a q=>Za (ns:=4) rfl rfl ((dM h▸OV (bits:=7) (m:=0) (by decide) (by decide) (fun k hk=>C1 (j:=0) (by decide) (by decide) (fun hc=>absurd hc (by decide)) hk) ⟨h.lo,u0 h.hi (by decide)⟩:Rd 3 641 [.d (.int 7)] [128+n] (.int n)).go a q)⟩
end
noncomputable def Pb(a:Int)(b:Option Int)(pad:Nat):List Int:=match b with|none=>0::free a pad|some b=>1::(free a pad++free b pad)
theorem Kd.xT{k:Int}(h:Kd k):In (-64) 0 k:=by cases h<;>exact .lit rfl
theorem Rk.xT{k:Int}(h:Rk k):In (-64) 0 k:=by cases h<;>exact .lit rfl
section
variable{r:Nat}{st:St}{O l m:List Int}{p e pE x:Int}{Q:D→St→Prop}{X:Xp}{a b:List Int}{pad:Nat}
theorem C6{n:Int}(h:Zx n):Rd 5 411 [] (free n pad) (.int n):=⟨fun a q=>Za (ns:=4) rfl rfl ((ZN h).go a q)⟩
theorem kept{k at_:Int}(h:Kd k)(q:Q .none st):cN (r+1) 418 [.d (.int k),.d (.int at_)] st Q X:=by cases h<;>exact Za (ns:=5) rfl rfl q
theorem Gm{k:Int}(h:Kd k):Rd 6 432 [] [128+k] (.int k):=
 ⟨fun a q=>Za (ns:=4) rfl rfl (Za (ns:=7) rfl rfl ((lZ h.xT).go a fun p1 h1=>kept h (Zn (b:= !([-1, -2, -16, -17]:List Int).any (· ==k)) (by cases h<;>rfl) (q _ h1))))⟩
theorem Wl{k:Int}(h:Rk k):Rd 5 439 [] [128+k] (.int k):=
 ⟨fun a q=>Za (ns:=6) rfl rfl ((lZ h.xT).go a fun p1 h1=>Zn (b:= !([-16, -17]:List Int).any (· ==k)) (by cases h<;>rfl) (q _ h1))⟩
theorem VL:Rd 3 558 [] [0] (.int (-16)):=⟨fun a q=>Za (ns:=5) rfl rfl (Yw.go a q)⟩
theorem OZ{a:Int}{b:Option Int}(ha:Zx a)(hb:Ed Zx b):Rd 5 453 [] (Pb a b pad) (.tup [.int a,SI b]):=by
 cases hb with
 |no=>exact⟨fun h q=>Za (ns:=7) rfl rfl (Yw.go h fun p1 h1=>(ZN ha).go h1 q)⟩
 |so hb=>exact⟨fun h q=>Za (ns:=7) rfl rfl (Yw.go h fun p1 h1=>(ZN ha).go h1.as fun p2 h2=>(ZN hb).go h2 q)⟩
theorem OY{a:Int}{b:Option Int}(ha:Zx a)(hb:Ed Zx b):Rd 6 467 [] (Pb a b pad) (.tup [.int a,SI b]):=⟨fun h q=>Za (ns:=4) rfl rfl ((OZ ha hb).go h q)⟩
theorem K4{k a:Int}{b:Option Int}(hk:Rk k)(ha:Zx a)(hb:Ed Zx b):Rd 6 460 [] ((128+k)::Pb a b pad) (.tup [.int k,.int a,SI b]):=
 ⟨fun h q=>Za (ns:=7) rfl rfl ((Wl hk).go h fun p1 h1=>(OZ ha hb).go h1 q)⟩
theorem Na{k m:Int}(hk:Kd k)(hm:lX m):Rd 7 474 [] [128+k,m] (.tup [.int k,.int m]):=
 ⟨fun h q=>Za (ns:=7) rfl rfl ((Gm hk).go h fun p1 h1=>Yw.go h1 fun p2 h2=>Zn (b:=decide (1<m)) (by cases hm<;>rfl) (q _ h2))⟩
noncomputable def flat:List (List Int × D)→List Int
 |[]=>[]
 |x::r=>x.1++flat r
noncomputable def Aa5:PS:=VD (Ye (Z1 1 QL))
theorem I8{α β:Type}{a:List α}{x:β}{b:List β}{n:Nat}(h:a.length+(x::b).length≤n):a.length+1≤n:=ao (d9 (cj (ie _)) _) h
theorem I7{α β:Type}{a:List α}{y:α}{x:β}{b:List β}{n:Nat}(h:a.length+(x::b).length≤n):(a++[y]).length+b.length≤n:=by rw[b4];exact ao (u6 (w9 _ _)) h
theorem Ei{f n:Nat}(hf:RP.elem f=true){N:Ev→St→Prop}{R:D→St→Prop}:∀{parts:List (List Int × D)} {items done:List D} {s3:Option S} {p:Int},items.length=parts.length→All (fun x=>Rd n f [] x.1 x.2) parts→done.length+parts.length≤100→RS O e pE X st p (flat parts++m)→
  (∀p s3,RS O e pE X st p m→N [some (.tag .cur),some (.d (.fn f)),some (.own (done++parts.map (·.2))),s3,none,none,none] (st.c O p e))→
  XV (fun env st k=>wpS (cx (r+n)) Aa5 env st k R X) [3] items [some (.tag .cur),some (.d (.fn f)),some (.own done),s3,none,none,none] (st.c O p e) N:=by
 intro parts
 induction parts with
 |nil=>
  intro items done s3 p hi hp hd h q
  cases items with
  |nil=>exact(bw done)▸q p s3 h
  |cons _ _=>cases hi
 |cons x parts ih=>
  intro items done s3 p hi hp hd h q
  cases items with
  |nil=>cases hi
  |cons y items=>
   cases hp with
   |cons hx hp=>
   refine Z5 hf (hx.go h.as fun p1 h1=>Zr (ao (m:=100) ?_ (by decide)) (ih (u5 hi) hp ?_ h1 fun p s h=> ?_))
   ·exact I8 hd
   ·exact I7 hd
   ·rw[b8];exact q p s h
theorem TP{n:Nat}(h:n≤3):Zx (n:Int):=⟨iu _,mj (kh.mpr h) (by decide)⟩
theorem Mr{n f:Nat}{parts:List (List Int × D)}(hf:RP.elem f=true)(hl:parts.length≤3)(h:All (fun x=>Rd (n+4) f [] x.1 x.2) parts):Rd (n+5) 404 [.d (.fn f)] (free parts.length pad++flat parts) (.list (parts.map (·.2))):=by
 constructor
 intro r st O p e pE Q X m a q
 refine Za (ns:=7) rfl rfl ((ZN (TP hl)).go (r:=r+n) a.as fun p1 h1=> ?_)
 refine Zr (ao hl (by decide)) ?_
 refine Ei (r:=r) (n:=n+4) (done:=[]) hf ?_ h (by rw[zl,wc];exact ao hl (by decide)) h1 fun p s h=>q p h
 rw[YO,aq,gr]
noncomputable def K3(ks:List Int)(pad:Nat):List Int:=free ks.length pad++ks.map (128+ ·)
theorem K2{ks:List Int}(h:ZI 2 Kd ks):Rd 7 404 [.d (.fn 432)] (K3 ks pad) (.list (ks.map .int)):=by
 have e1:flat (ks.map fun k=>([128+k],.int k))=ks.map (128+ ·):=by
  clear h;induction ks with
  |nil=>rfl
  |cons k ks ih=>exact congrArg (List.cons (128+k)) ih
 have e2:(ks.map fun k=>(([128+k],.int k):List Int × D)).map (·.2)=ks.map .int:=by rw[ko];rfl
 have:=Mr (n:=2) (f:=432) (pad:=pad) (parts:=ks.map fun k=>([128+k],.int k)) rfl (by rw[aq];exact ao h.le (by decide)) (by
  have:=h.all;clear h e1 e2;induction this with
  |nil=>exact .nil
  |cons a _ ih=>exact .cons (Gm a) ih)
 rw[aq,e1,e2] at this
 exact this
noncomputable def C7(ps rs:List Int)(pad:Nat):List Int:=96::(K3 ps pad++K3 rs pad)
theorem dQ{ps rs:List Int}(hp:ZI 2 Kd ps)(hr:ZI 2 Kd rs):Rd 8 446 [] (C7 ps rs pad) (.tup [.tup (ps.map .int),.tup (rs.map .int)]):=
 ⟨fun h q=>Za (ns:=7) rfl rfl (Yw.go h fun p1 h1=>(K2 hp).go h1.as fun p2 h2=>(K2 hr).go h2 q)⟩
end
noncomputable def Zm.dW:Zm→Str
 | .Dx _=>"i32"| .Cu _=>"i64"| .glob _=>"global"| .fn _=>"func"| .null _=>"refkind"| .add=>"none"
noncomputable def Zm.Ek:Zm→Nat→List Int
 | .Dx a,p=>own a 32 p| .Cu a,p=>own a 64 p| .glob a,p=>free a p| .fn a,p=>free a p| .null k,p=>[128+k]| .add,_=>[]
noncomputable def Zm.enc(i:Zm)(pad:Nat):List Int:=i.code::i.Ek pad
noncomputable def SK:List Zm→Nat→List Int
 |[],_=>[11]
 |i::l,p=>i.enc p++SK l p
inductive Cd:Int→Str→Prop
 |ins (i:Zm):Cd i.code i.dW
 |fin:Cd 11 "none"
section
variable{r:Nat}{st:St}{O l m:List Int}{p e pE x:Int}{Q:D→St→Prop}{X:Xp}{a b:List Int}{pad:Nat}{c:Int}{t:Str}
theorem dS(h:Cd c t)(q:Q (.bool false) st):cN (r+1) 117 [.d (.int c)] st Q X:=by
 cases h with
 |ins i=>cases i<;>exact Za (ns:=4) rfl rfl q
 |fin=>exact Za (ns:=4) rfl rfl q
theorem Qa(h:Cd c t)(q:Q (.str t) st):cN (r+2) 105 [.d (.int c)] st Q X:=by
 cases h with
 |ins i=>cases i with
  |add=>exact Za (ns:=4) rfl rfl (Za (ns:=8) rfl rfl q)
  |_=>exact Za (ns:=4) rfl rfl q
 |fin=>exact Za (ns:=4) rfl rfl q
theorem C8(i:Zm)(q:Q (.bool false) st):cN (r+1) 112 [.d (.int i.code)] st Q X:=by cases i<;>exact Za (ns:=4) rfl rfl q
theorem Cd.Adz(h:Cd c t):decide (c=252)=false:=by
 cases h with
 |ins i=>cases i<;>rfl
 |fin=>rfl
theorem Gn(h:Cd c t):Rd 3 537 [] [c] (.int c):=
 ⟨fun a q=>Za (ns:=7) rfl rfl (Yw.go a fun p1 h1=>Zn h.Adz (dS h (Qa h (q _ h1))))⟩
theorem dR{i:Zm}(hi:i.Ok):Rd 6 523 [.d (.str i.dW)] (i.Ek pad) (.tup i.imm):=by
 cases i with
 |add=>exact⟨fun a q=>Za (ns:=5) rfl rfl (Wg (by kernel_rfl) (q _ a))⟩
 |Dx x=>exact⟨fun a q=>Za (ns:=5) rfl rfl (Zn (by kernel_rfl) (Zn (by kernel_rfl) (Zn (by kernel_rfl) (Wg (by kernel_rfl) ((sO hi).go a q)))))⟩
 |Cu x=>exact⟨fun a q=>Za (ns:=5) rfl rfl (Zn (by kernel_rfl) (Zn (by kernel_rfl) (Zn (by kernel_rfl) (Zn (by kernel_rfl) (Wg (by kernel_rfl) ((sM hi).go a q))))))⟩
 |glob x=>exact⟨fun a q=>Za (ns:=5) rfl rfl (Zn (by kernel_rfl) (Wg (by kernel_rfl) ((ZN hi).go a q)))⟩
 |fn x=>exact⟨fun a q=>Za (ns:=5) rfl rfl (Zn (by kernel_rfl) (Wg (by kernel_rfl) ((ZN hi).go a q)))⟩
 |null x=>exact⟨fun a q=>Za (ns:=5) rfl rfl (Zn (by kernel_rfl) (Zn (by kernel_rfl) (Zn (by kernel_rfl) (Zn (by kernel_rfl) (Zn (by kernel_rfl) (Zn (by kernel_rfl) (Wg (by kernel_rfl) ((Wl hi).go a q))))))))⟩
theorem sR{i:Zm}(hi:i.Ok):Rd 7 530 [.d (.str i.dW)] (i.Ek pad) (.tup i.imm):=⟨fun a q=>Za (ns:=7) rfl rfl ((dR hi).go a q)⟩
noncomputable def Aa6:PE:=match Ye (Z1 1 UL) with| .wh t _=>t|_=> .bad
noncomputable def Aa7:PS:=VD (Ye (Z1 1 UL))
theorem Zm.big(i:Zm):decide (i.code=11)=false∧decide (i.code=5)=false∧(([64520,64521]:List Int).any (· ==i.code))=false:=by cases i<;>exact⟨rfl,rfl,rfl⟩
theorem Zm.sQ(i:Zm):i.imm.length≤1:=by cases i with|add=>exact ie 1|_=>exact ew 1
theorem Ej{R:D→St→Prop}{N:Ev→St→Prop}:∀{l:List Zm} {bd:List D} {F:Nat} {p:Int} {s4 s5:Option S},l.length+1<F→bd.length+l.length≤3→All Zm.Ok l→RS O e pE X st p (SK l pad++m)→
  (∀p s4 s5,RS O e pE X st p m→N [some (.tag .cur),some (.d (.bool true)),some (.own (bd++(l.map Zm.d++[i1 11]))),some (.own []),s4,s5,none,none,none] (st.c O p e))→
  NS (fun env st k=>L6 (cx (r+7)) Aa6 env st k X) (fun env st k=>wpS (cx (r+7)) Aa7 env st k R X) F [some (.tag .cur),some (.d (.bool true)),some (.own bd),some (.own [.int 0]),s4,s5,none,none,none] (st.c O p e) N:=by
 intro l
 induction l with
 |nil=>
  intro bd F p s4 s5 hF hb hi h q
  match F,hF with
  |F+2,_=>
   refine(Gn .fin).go (r:=r+4) h fun p1 h1=> ?_
   exact Zr (ao (cj hb) (by decide)) (q _ _ _ h1)
 |cons i l ih=>
  intro bd F p s4 s5 hF hb hi h q
  cases hi with
  |cons hi hl=>
  match F,hF with
  |F+1,hF=>
   refine(Gn (.ins i)).go (r:=r+4) h fun p1 h1=> ?_
   refine Zn i.big.1 (Zn i.big.2.1 (Zn i.big.2.2 (Qa (.ins i) ?_)))
   refine(sR hi).go (r:=r) (RS.as (a:=i.Ek pad) h1) fun p2 h2=> ?_
   have hb1:bd.length+1≤3:=I8 hb
   refine Zr (ao (m:=2) ?_ (by decide)) (Zr (ao hb1 (by decide)) (C8 i ?_))
   ·rw[b4];exact d9 i.sQ 1
   ·refine ih (bd:=bd++[i.d]) (gg hF) ?_ hl h2 fun p s4 s5 h3=> ?_
    ·exact I7 hb
    ·rw[b8];exact q p s4 s5 h3
theorem dU{l:List Zm}(h:Zz l):Rd 8 544 [.d (.bool true)] (SK l pad) (XG l):=
 ⟨fun a q=>Za (ns:=9) rfl rfl (Ej (bd:=[]) (by have:=h.le;omega) (by have:=h.le;rw[zl];omega) h.all a fun p s4 s5 h=>q p h)⟩
theorem Wm{l:List Zm}(h:Zz l):Rd 9 551 [] (SK l pad) (XG l):=⟨fun a q=>Za (ns:=4) rfl rfl ((dU h).go a q)⟩
end
noncomputable def cu(r:Nat):Nat→Cx
 |0=>cx r
 |n+1=>⟨fun f vs st Q X=>XK (QD.lookup f) fun e=>W2 (qp vs.length e.np&&vs.all fun v=> !ZO v)
   (wpS (cu r n) e.p (vs.map some++i8 (e.ns - e.np) none) st (fun _ st=>Q .none st) Q X),QB,XQ⟩
theorem Bx.eq(p:Prop):Bx p=p:=propext ⟨fun h=>h.un,fun h=>⟨h⟩⟩
theorem CA(r:Nat):∀n,cu r n=cx (r+n)
 |0=>rfl
 |n+1=>by
  unfold cu
  rw[CA r n]
  show _=(⟨fun f vs st Q X=>Bx (Kf QD (r+n+1) f vs st Q X),QB,XQ⟩:Cx)
  congr 1
  funext f vs st Q X
  exact(Bx.eq _).symm
theorem run{r:Nat}(n:Nat){f:Nat}{vs:List S}{st:St}{Q:D→St→Prop}{X:Xp}{B:Prop}(h:B)(e:(cu r n).call f vs st Q X=B):cN (r+n) f vs st Q X:=by
 have:=e▸h
 rwa [CA] at this
noncomputable def Y4(x:Tx)(pad:Nat):List Int:=free x.o.length pad++x.o
noncomputable abbrev U1:Str:="length out of bounds"
noncomputable def Wn:List Tx→Nat→Int→Int→Str × Int
 |[],_,_,c=>(U0,c)
 |x::r,pad,a,c=>match decide (a+(Y4 x pad).length - x.o.length≤c)&&decide (c<a+(Y4 x pad).length) with
  |true=>(U1,a+(Y4 x pad).length - x.o.length)
  |false=>Wn r pad (a+(Y4 x pad).length) c
theorem Tx.le(x:Tx):x.o.length≤4:=by cases x<;>decide
structure RN(O:List Int)(e pE:Int)(X:Xp)(st:St)(ts:List Tx)(pad:Nat)(p:Int)(m:List Int):Prop where
 at_:At O p e m
 le:p≤e
 fin:p+m.length=pE
 Mn:e<pE→∀a,X 0 (Wn ts pad p e).1 (Wn ts pad p e).2 (st.c O a e)
theorem Gq(x:Tx)(pad:Nat):((Y4 x pad).length:Int)=(free x.o.length pad).length+x.o.length:=by unfold Y4;rw[b4];rfl
theorem C9{pad:Nat}{e:Int}:∀{ts:List Tx} {a:Int},e<a→Wn ts pad a e=(U0,e)
 |[],_,_=>rfl
 |x::r,a,h=>by
  have:=Gq x pad
  unfold Wn
  rw[decide_eq_false (by omega)]
  exact C9 (by omega)
section
variable{r:Nat}{st:St}{O l m:List Int}{p e pE x:Int}{Q:D→St→Prop}{X:Xp}{a b:List Int}{pad:Nat}{ts:List Tx}
theorem RN.rs(h:RN O e pE X st [] pad p m):RS O e pE X st p m:=⟨h.at_,h.le,h.fin,h.Mn⟩
theorem At.drop:∀{a:List Int} {p:Int},At O p e (a++b)→At O (p+a.length) e b
 |[],p,h=>by rw[zl];show At O (p+0) e b;rw[qa];exact h
 |x::a,p,h=>by have:=At.drop (a:=a) h.tail;rwa [jx,adv]
theorem At.left(h:At O p e (a++b)):At O p e a:=⟨h.lo,h.hi,fun i x hx hi=>h.get i x ((List.getElem?_append_left (mz.mp hx).1).trans hx) hi⟩
theorem At.slice(h:At O p e l)(hl:p+l.length≤e):(O.take (p+l.length).toNat).drop p.toNat=l:=by
 obtain⟨n,rfl⟩:=oj h.lo
 show(O.take (n+l.length)).drop n=l
 apply List.ext_getElem?
 intro i
 rw[List.getElem?_drop,List.getElem?_take]
 by_cases hi:i<l.length
 ·rw[if_pos (Nat.add_lt_add_left hi n),dh hi]
  exact h.get i l[i] (dh hi) (j6 (Int.add_lt_add_left (qd.mpr hi) n) hl)
 ·rw[if_neg fun q=>hi (Nat.lt_of_add_lt_add_left q),List.getElem?_eq_none (Nat.le_of_not_lt hi)]
theorem Mt(h:p+((a++b).length:Int)=pE):p+a.length+b.length=pE:=by rw[b4] at h;exact(uy p a.length b.length).trans h
theorem Pc{x y:Int}{n:Nat}(h:x+n=y):x≤y:=h▸Int.le_add_of_nonneg_right (iu n)
theorem Mu(q:Q (.int (e - p)) (st.c O p e)):cN (r+1) 592 [.tag .cur] (st.c O p e) Q X:=Za (ns:=4) rfl rfl q
theorem Gp(h:At O p e l)(hl:p+l.length≤e)(q:Q (.bytes l) (st.c O (p+l.length) e)):cN (r+2) 620 [.tag .cur,.d (.int l.length)] (st.c O p e) Q X:=by
 refine Za (ns:=6) rfl rfl (Mu (Zn (b:=decide (e - p<l.length)) (decide_eq_false (mh.mpr (xt hl))) (Z5 (b:=decide (0≤p)&&(decide (p≤p+l.length)&&decide (p+l.length≤O.length))) ?_ ?_)))
 ·rw[decide_eq_true h.lo,decide_eq_true (Pc rfl),decide_eq_true (ja hl h.hi)];rfl
 ·rw[h.slice hl];exact q
theorem Mw:Rd 2 620 [.d (.int l.length)] l (.bytes l):=by
 constructor
 intro r st O p e pE Q X m h q
 by_cases hl:p+l.length≤e
 ·exact Gp h.at_.left hl (q _ ⟨h.at_.drop,hl,Mt h.fin,h.Mn⟩)
 ·refine Za (ns:=6) rfl rfl (Mu (Wg (b:=decide (e - p<l.length)) (decide_eq_true (Int.sub_left_lt_of_lt_add (jc.mp hl))) (h.Mn (j6 (jc.mp hl) (Pc (Mt h.fin))) _)))
theorem dX{x:Tx}{b:Int}(q:Q (.str x.s) st):cN (r+2) 782 [.d (.bytes x.o),.d (.int b)] st Q X:=by cases x<;>exact run (r:=r) 2 q (by kernel_rfl)
theorem Ms{x:Tx}(h:RN O e pE X st (x::ts) pad p (Y4 x pad++m))(q:∀p',RN O e pE X st ts pad p' m→Q (.str x.s) (st.c O p' e)):cN (r+5) 683 [.tag .cur] (st.c O p e) Q X:=by
 have hl:=Gq x pad
 have hf:=Mt h.fin
 have hw:p+(free x.o.length pad).length+x.o.length=p+(Y4 x pad).length:=(uy ..).trans (congrArg (p+ ·) hl.symm)
 have ha:At O p e (free x.o.length pad++(x.o++m)):=b8 ..▸h.at_
 refine Za (ns:=6) rfl rfl ((ZN (n:=(x.o.length:Int)) ⟨iu _,mj (kh.mpr x.le) (by decide)⟩).go (m:=[]) (pE:=p+(free x.o.length pad).length) ⟨by rw[bw];exact ha.left,h.le,by rw[bw],fun g a=> ?_⟩ fun p1 h1=>Mu (Zu (b:=decide (e - p1<x.o.length)) (fun g=> ?_) fun g=> ?_))
 ·have g2:=j6 g (Pc hw)
  have:=h.Mn (j6 g2 (Pc hf)) a
  unfold Wn at this
  rw[decide_eq_false (by rw[← hw,Int.add_sub_cancel];exact jc.mpr g)] at this
  change X 0 (Wn ts pad _ e).1 (Wn ts pad _ e).2 _ at this
  rwa [C9 g2] at this
 ·have e1:=h1.fin;have e2:=h1.le
  have g:=Int.lt_add_of_sub_left_lt (of_decide_eq_true g)
  have e1:p1=p+(free x.o.length pad).length:=(qa p1).symm.trans e1
  rw[e1] at e2
  rw[e1,hw] at g
  have:=h.Mn (j6 g (Pc hf)) p1
  unfold Wn at this
  rw[← hw,Int.add_sub_cancel,hw,decide_eq_true e2,decide_eq_true g,← e1] at this
  exact this
 ·have e1:=h1.fin;have e2:=h1.le
  have g:=xr (mh.mp (of_decide_eq_false g))
  have e1:p+(free x.o.length pad).length=p1:=e1.symm.trans (qa p1)
  rw[e1] at hw
  have a1:At O p1 e (x.o++m):=e1▸ha.drop
  refine Gp (r:=r+2) a1.left g ?_
  refine dX (r:=r+2) (q _ ⟨a1.drop,g,hw▸hf,fun g2 a=> ?_⟩)
  have:=h.Mn g2 a
  unfold Wn at this
  rw[← hw,decide_eq_false (p:=e<_) (mh.mpr g),u7] at this
  exact this
end
noncomputable def Ab.enc:Ab→Nat→List Int
 | .idx a,p=>free a p| .tab k a b,p=>(128+k)::Pb a b p| .mem a b,p=>Pb a b p| .glob k m,_=>[128+k,m]
noncomputable def Zm.arg:Zm→Int
 | .Dx a=>a| .Cu a=>a| .glob a=>a| .fn a=>a| .null a=>a| .add=>0
inductive dY:List Zm→Prop|mk {ns:List Int}:ZI 2 Zx ns→dY (ns.map Zm.fn)
abbrev Sw(l:List Zm):Prop:=ZI 2 Zm.Ok l
inductive El.Fm:El→Nat→Prop
 |f0 {l is:List Zm}:Zz l→dY is→Fm ⟨1,0,some l, -16,is⟩ 0
 |f1 {is:List Zm}:dY is→Fm ⟨0,0,none, -16,is⟩ 1
 |f2 {t:Int} {l is:List Zm}:Zx t→Zz l→dY is→Fm ⟨1,t,some l, -16,is⟩ 2
 |f3 {is:List Zm}:dY is→Fm ⟨2,0,none, -16,is⟩ 3
 |f4 {l is:List Zm}:Zz l→Sw is→Fm ⟨1,0,some l, -16,is⟩ 4
 |f5 {k:Int} {is:List Zm}:Rk k→Sw is→Fm ⟨0,0,none,k,is⟩ 5
 |f6 {t k:Int} {l is:List Zm}:Zx t→Zz l→Rk k→Sw is→Fm ⟨1,t,some l,k,is⟩ 6
 |f7 {k:Int} {is:List Zm}:Rk k→Sw is→Fm ⟨2,0,none,k,is⟩ 7
noncomputable def Em(c:Option (List Zm))(pad:Nat):List Int:=match c with|some l=>SK l pad|none=>[]
noncomputable def El.part(f pad:Nat)(i:Zm):List Int × D:=match jd f 4 with|true=>(free i.arg pad,.int i.arg)|false=>(SK [i] pad,XG [i])
noncomputable def YN(f pad:Nat)(l:List Zm):List Int:=free (l.map (El.part f pad)).length pad++flat (l.map (El.part f pad))
noncomputable def El.sS(x:El)(pad:Nat):Nat→List Int
 |0=>Em x.c pad++YN 0 pad x.Yg
 |1=>0::YN 1 pad x.Yg
 |2=>free x.t pad++(Em x.c pad++0::YN 2 pad x.Yg)
 |3=>0::YN 3 pad x.Yg
 |4=>Em x.c pad++YN 4 pad x.Yg
 |5=>(128+x.k)::YN 5 pad x.Yg
 |6=>free x.t pad++(Em x.c pad++(128+x.k)::YN 6 pad x.Yg)
 |_=>(128+x.k)::YN 7 pad x.Yg
noncomputable def El.enc(x:El)(f pad:Nat):List Int:=free f pad++x.sS pad f
noncomputable def Dt.sS(x:Dt)(pad:Nat):Nat→List Int
 |0=>Em x.c pad++(free x.bs.length pad++x.bs)
 |1=>free x.bs.length pad++x.bs
 |_=>free x.mem pad++(Em x.c pad++(free x.bs.length pad++x.bs))
noncomputable def Dt.enc(x:Dt)(f pad:Nat):List Int:=free f pad++x.sS pad f
inductive Dt.Fm:Dt→Nat→Prop
 |f0 {l:List Zm} {bs:List Int}:Zz l→ZI 3 By bs→Fm ⟨0,some l,bs⟩ 0
 |f1 {bs:List Int}:ZI 3 By bs→Fm ⟨0,none,bs⟩ 1
 |f2 {m:Int} {l:List Zm} {bs:List Int}:Zx m→Zz l→ZI 3 By bs→Fm ⟨m,some l,bs⟩ 2
noncomputable def Th.enc(t:Th)(f pad:Nat):List Int:=match t with
 | .elem x=>x.enc f pad
 | .data x=>x.enc f pad
 | .imp a b x=>Y4 a pad++(Y4 b pad++x.sort::x.enc pad)
 | .typ ps rs=>C7 ps rs pad
 | .tab k a b=>(128+k)::Pb a b pad
 | .mem a b=>Pb a b pad
 | .glob k m=>[128+k,m]
 | .exp a s i=>Y4 a pad++(s.val:Int)::free i pad
noncomputable def Th.texts:Th→List Tx
 | .imp a b _=>[a,b]| .exp a _ _=>[a]|_=>[]
inductive Th.Fm:Th→Nat→Prop
 |elem {x:El} {f:Nat}:x.Fm f→Fm (.elem x) f
 |data {x:Dt} {f:Nat}:x.Fm f→Fm (.data x) f
 |rest {t:Th} {f:Nat}:t.Ok→2≤t.sort→Fm t f
section
variable{r:Nat}{st:St}{O l m:List Int}{p e pE x:Int}{Q:D→St→Prop}{X:Xp}{a b:List Int}{pad:Nat}{ts:List Tx}
theorem Eo{x y:Tx}{ab:Ab}(hab:ab.Ok)(h:RN O e pE X st [x,y] pad p (Y4 x pad++(Y4 y pad++(ab.sort::ab.enc pad++m))))(q:∀p',RS O e pE X st p' m→Q (.inst 2 [.str x.s,.str y.s,.int ab.sort,ab.d]) (st.c O p' e)):cN (r+8) 481 [.tag .cur] (st.c O p e) Q X:=by
 refine Za (ns:=8) rfl rfl (Ms (r:=r+2) h fun p1 h1=>Ms (r:=r+2) h1 fun p2 h2=> ?_)
 have h2:=h2.rs
 cases hab with
 |idx a=>exact Yw.go h2 fun p3 h3=>(ZN a).go h3 q
 |tab a b c=>exact Yw.go h2 fun p3 h3=>(K4 a b c).go h3 q
 |mem a b=>exact Yw.go h2 fun p3 h3=>(OY a b).go h3 q
 |glob a b=>exact Yw.go h2 fun p3 h3=>(Na a b).go (r:=r) h3 q
theorem En{x:Tx}{s:Fin 4}{i:Int}(hi:Zx i)(h:RN O e pE X st [x] pad p (Y4 x pad++((s.val:Int)::free i pad++m)))(q:∀p',RS O e pE X st p' m→Q (.tup [.str x.s,.int s.val,.int i]) (st.c O p' e)):cN (r+6) 488 [.tag .cur] (st.c O p e) Q X:=
 Za (ns:=7) rfl rfl (Ms h fun p1 h1=>Yw.go (r:=r+3) h1.rs fun p2 h2=>Zn (b:=decide ((3:Int)<(s.val:Int))) (decide_eq_false (by have:=s.isLt;omega)) ((ZN hi).go (r:=r+1) h2 q))
end
theorem comp_map{α:Type}{body:Ev→St→(Option D→St→Prop)→Prop}{i:Nat}{env:Ev}{st:St}{Q:List D→St→Prop}{f g:α→D}{P:α→Prop}
  (h:∀a,P a→∀k:Option D→St→Prop,k (some (g a)) st→body (env.set i (some (.d (f a)))) st k):∀{l:List α} {acc:List D},All P l→Q (acc++l.map g) st→Wf body [i] (l.map f) env st acc Q:=fun {l acc} hl q=>by
 induction l generalizing acc with
 |nil=>exact(bw acc)▸q
 |cons a l ih=>exact h a hl.un.a _ (ih hl.un.r (by rw[b8];exact q))
section
variable{r:Nat}{st:St}{O l m:List Int}{p e pE x:Int}{Q:D→St→Prop}{X:Xp}{a b:List Int}{pad:Nat}
theorem All.map{α β:Type}{P:α→Prop}{R:β→Prop}{g:α→β}(h:∀a,P a→R (g a)):∀{l:List α},All P l→All R (l.map g):=fun {l} k=>by
 induction l with
 |nil=>exact .nil
 |cons x l ih=>exact .cons (h _ k.un.a) (ih k.un.r)
theorem Nb{is:List Zm}{f:Nat}(hf:jd f 4=false)(h:Sw is):Rd 10 404 [.d (.fn 551)] (YN f pad is) (Xw is):=by
 have e:(is.map (El.part f pad)).map (·.2)=is.map fun i=>XG [i]:=by
  rw[ko];congr 1;funext i;show(El.part f pad i).2=_;unfold El.part;rw[hf]
 unfold Xw;rw[← e]
 exact Mr (n:=5) rfl (by rw[aq];exact ao h.le (by decide)) (h.all.map fun i hi=>by unfold El.part;rw[hf];exact Wm ⟨n9 1 2,.cons hi .nil⟩)
theorem index_list{ns:List Int}{f:Nat}(hf:jd f 4=true)(h:ZI 2 Zx ns):Rd 6 404 [.d (.fn 411)] (YN f pad (ns.map Zm.fn)) (.list (ns.map .int)):=by
 have e:((ns.map Zm.fn).map (El.part f pad)).map (·.2)=ns.map .int:=by
  rw[ko,ko];congr 1;funext i;show(El.part f pad (.fn i)).2=_;unfold El.part;rw[hf];rfl
 rw[← e]
 exact Mr (n:=1) rfl (by rw[aq,aq];exact ao h.le (by decide)) ((h.all.map (g:=Zm.fn) (R:=fun i=>∃a,Zx a∧i= .fn a) fun i hi=>⟨i,hi,rfl⟩).map fun i hi=>by obtain⟨a,ha,rfl⟩:=hi;unfold El.part;rw[hf];exact C6 ha)
noncomputable abbrev eEv(s1 s2 s3:D)(fl:Bool)(md t c k:D):Ev:=[some (.tag .cur),some (.d s1),some (.d s2),some (.d s3),some (.d (.bool fl)),some (.d md),some (.d t),some (.d c),some (.d k),none,none,none,none]
theorem Qc{ns:List Int}{f:Nat}{s1 s2 s3:D}{md t k:Int}{c:D}(hf:jd f 4=true)(h:ZI 2 Zx ns)(a:RS O e pE X st p (YN f pad (ns.map Zm.fn)++m))(q:∀p',RS O e pE X st p' m→Q (.inst 0 [.int md,.int t,c,.int k,Xw (ns.map Zm.fn)]) (st.c O p' e)):
  wpS (cx (r+6)) (Z1 9 Vj) (eEv s1 s2 s3 false (.int md) (.int t) c (.int k)) (st.c O p e) (fun _ st=>Q .none st) Q X:=by
 refine(index_list hf h).go a fun p1 h1=>Zr (ao (by rw[aq];exact h.le) (by decide)) (comp_map (P:=Zx) (f:= .int) (g:=fun a=>XG [.fn a]) (fun a _ k hk=>hk) h.all ?_)
 have:=q p1 h1
 unfold Xw at this
 rw[ko] at this
 exact this
theorem Pd{is:List Zm}{f:Nat}{s1 s2 s3:D}{md t k:Int}{c:D}(hf:jd f 4=false)(h:Sw is)(a:RS O e pE X st p (YN f pad is++m))(q:∀p',RS O e pE X st p' m→Q (.inst 0 [.int md,.int t,c,.int k,Xw is]) (st.c O p' e)):
  wpS (cx (r+10)) (Z1 9 Vj) (eEv s1 s2 s3 true (.int md) (.int t) c (.int k)) (st.c O p e) (fun _ st=>Q .none st) Q X:=(Nb hf h).go a q
theorem Ep{is:List Zm}{f:Nat}{s1 s2:D}{md t k:Int}{c:D}(hf:jd f 4=false)(h:Sw is)(a:RS O e pE X st p (YN f pad is++m))(q:∀p',RS O e pE X st p' m→Q (.inst 0 [.int md,.int t,c,.int k,Xw is]) (st.c O p' e)):
  wpS (cx (r+10)) (Z1 8 Vj) (eEv s1 s2 (.int 0) true (.int md) (.int t) c (.int k)) (st.c O p e) (fun _ st=>Q .none st) Q X:=(Nb hf h).go a q
noncomputable def El.in(x:El):D:= .inst 0 [.int x.mode,.int x.t,Ku x.c,.int x.k,Xw x.Yg]
theorem Us{n:Nat}(h:n<8):Zx (n:Int):=⟨by omega,by omega⟩
theorem dZ{l:List Zm}{ns:List Int}(hl:Zz l)(hi:ZI 2 Zx ns)(a:RS O e pE X st p (El.enc ⟨1,0,some l, -16,ns.map Zm.fn⟩ 0 pad++m))(q:∀p',RS O e pE X st p' m→Q (El.in ⟨1,0,some l, -16,ns.map Zm.fn⟩) (st.c O p' e)):cN (r+16) 563 [.tag .cur] (st.c O p e) Q X:=
 Za (ns:=13) rfl rfl ((ZN (n:=0) (Us (by decide:0<8))).go (r:=r+11) a.as fun p1 h1=>(Wm hl).go (r:=r+6) h1.as fun p2 h2=>Qc (r:=r+9) rfl hi h2 q)
theorem eA{ns:List Int}(hi:ZI 2 Zx ns)(a:RS O e pE X st p (El.enc ⟨0,0,none, -16,ns.map Zm.fn⟩ 1 pad++m))(q:∀p',RS O e pE X st p' m→Q (El.in ⟨0,0,none, -16,ns.map Zm.fn⟩) (st.c O p' e)):cN (r+16) 563 [.tag .cur] (st.c O p e) Q X:=
 Za (ns:=13) rfl rfl ((ZN (n:=1) (Us (by decide:1<8))).go (r:=r+11) a.as fun p1 h1=>VL.go (r:=r+12) h1 fun p2 h2=>ZQ (by exact Qc (r:=r+9) rfl hi h2 q))
theorem eM{l:List Zm}{t:Int}{ns:List Int}(ht:Zx t)(hl:Zz l)(hi:ZI 2 Zx ns)(a:RS O e pE X st p (El.enc ⟨1,t,some l, -16,ns.map Zm.fn⟩ 2 pad++m))(q:∀p',RS O e pE X st p' m→Q (El.in ⟨1,t,some l, -16,ns.map Zm.fn⟩) (st.c O p' e)):cN (r+16) 563 [.tag .cur] (st.c O p e) Q X:=
 Za (ns:=13) rfl rfl ((ZN (n:=2) (Us (by decide:2<8))).go (r:=r+11) a.as fun p1 h1=>(ZN ht).go (r:=r+11) h1.as fun p2 h2=>(Wm hl).go (r:=r+6) h2.as fun p3 h3=>VL.go (r:=r+12) h3 fun p4 h4=>ZQ (by exact Qc (r:=r+9) rfl hi h4 q))
theorem eK{ns:List Int}(hi:ZI 2 Zx ns)(a:RS O e pE X st p (El.enc ⟨2,0,none, -16,ns.map Zm.fn⟩ 3 pad++m))(q:∀p',RS O e pE X st p' m→Q (El.in ⟨2,0,none, -16,ns.map Zm.fn⟩) (st.c O p' e)):cN (r+16) 563 [.tag .cur] (st.c O p e) Q X:=
 Za (ns:=13) rfl rfl ((ZN (n:=3) (Us (by decide:3<8))).go (r:=r+11) a.as fun p1 h1=>VL.go (r:=r+12) h1 fun p2 h2=>ZQ (by exact Qc (r:=r+9) rfl hi h2 q))
theorem eH{l is:List Zm}(hl:Zz l)(hi:Sw is)(a:RS O e pE X st p (El.enc ⟨1,0,some l, -16,is⟩ 4 pad++m))(q:∀p',RS O e pE X st p' m→Q (El.in ⟨1,0,some l, -16,is⟩) (st.c O p' e)):cN (r+16) 563 [.tag .cur] (st.c O p e) Q X:=
 Za (ns:=13) rfl rfl ((ZN (n:=4) (Us (by decide:4<8))).go (r:=r+11) a.as fun p1 h1=>(Wm hl).go (r:=r+6) h1.as fun p2 h2=>ZQ (by exact Ep (r:=r+5) rfl hi h2 q))
theorem eF{k:Int}{is:List Zm}(hk:Rk k)(hi:Sw is)(a:RS O e pE X st p (El.enc ⟨0,0,none,k,is⟩ 5 pad++m))(q:∀p',RS O e pE X st p' m→Q (El.in ⟨0,0,none,k,is⟩) (st.c O p' e)):cN (r+16) 563 [.tag .cur] (st.c O p e) Q X:=
 Za (ns:=13) rfl rfl ((ZN (n:=5) (Us (by decide:5<8))).go (r:=r+11) a.as fun p1 h1=>(Wl hk).go (r:=r+10) h1 fun p2 h2=>ZQ (by exact Pd (r:=r+5) rfl hi h2 q))
theorem eB{l is:List Zm}{t k:Int}(ht:Zx t)(hl:Zz l)(hk:Rk k)(hi:Sw is)(a:RS O e pE X st p (El.enc ⟨1,t,some l,k,is⟩ 6 pad++m))(q:∀p',RS O e pE X st p' m→Q (El.in ⟨1,t,some l,k,is⟩) (st.c O p' e)):cN (r+16) 563 [.tag .cur] (st.c O p e) Q X:=
 Za (ns:=13) rfl rfl ((ZN (n:=6) (Us (by decide:6<8))).go (r:=r+11) a.as fun p1 h1=>(ZN ht).go (r:=r+11) h1.as fun p2 h2=>(Wm hl).go (r:=r+6) h2.as fun p3 h3=>(Wl hk).go (r:=r+10) h3 fun p4 h4=>ZQ (by exact Pd (r:=r+5) rfl hi h4 q))
theorem eN{k:Int}{is:List Zm}(hk:Rk k)(hi:Sw is)(a:RS O e pE X st p (El.enc ⟨2,0,none,k,is⟩ 7 pad++m))(q:∀p',RS O e pE X st p' m→Q (El.in ⟨2,0,none,k,is⟩) (st.c O p' e)):cN (r+16) 563 [.tag .cur] (st.c O p e) Q X:=
 Za (ns:=13) rfl rfl ((ZN (n:=7) (Us (by decide:7<8))).go (r:=r+11) a.as fun p1 h1=>(Wl hk).go (r:=r+10) h1 fun p2 h2=>ZQ (by exact Pd (r:=r+5) rfl hi h2 q))
theorem eG{x:El}{f:Nat}(h:x.Fm f):Rd 16 563 [] (x.enc f pad) x.in:=by
 constructor
 intro r st O p e pE Q X m a q
 cases h with
 |f0 hl hi=>cases hi with|mk hi=>exact dZ hl hi a q
 |f1 hi=>cases hi with|mk hi=>exact eA hi a q
 |f2 ht hl hi=>cases hi with|mk hi=>exact eM ht hl hi a q
 |f3 hi=>cases hi with|mk hi=>exact eK hi a q
 |f4 hl hi=>exact eH hl hi a q
 |f5 hk hi=>exact eF hk hi a q
 |f6 ht hl hk hi=>exact eB ht hl hk hi a q
 |f7 hk hi=>exact eN hk hi a q
end
noncomputable def Dt.in(x:Dt):D:= .inst 1 [.int x.mode,.int x.mem,Ku x.c,.bytes x.bs]
section
variable{r:Nat}{st:St}{O l m:List Int}{p e pE x:Int}{Q:D→St→Prop}{X:Xp}{a b:List Int}{pad:Nat}
theorem eS{l:List Zm}{bs:List Int}(hl:Zz l)(hb:ZI 3 By bs)(a:RS O e pE X st p (Dt.enc ⟨0,some l,bs⟩ 0 pad++m))(q:∀p',RS O e pE X st p' m→Q (Dt.in ⟨0,some l,bs⟩) (st.c O p' e)):cN (r+10) 570 [.tag .cur] (st.c O p e) Q X:=
 Za (ns:=9) rfl rfl ((ZN (n:=0) (Us (by decide:0<8))).go (r:=r+5) a.as fun p1 h1=>(Wm hl).go (r:=r) h1.as fun p2 h2=>(ZN (TP hb.le)).go (r:=r+5) h2.as fun p3 h3=>Mw.go (r:=r+7) h3 q)
theorem eU{bs:List Int}(hb:ZI 3 By bs)(a:RS O e pE X st p (Dt.enc ⟨0,none,bs⟩ 1 pad++m))(q:∀p',RS O e pE X st p' m→Q (Dt.in ⟨0,none,bs⟩) (st.c O p' e)):cN (r+10) 570 [.tag .cur] (st.c O p e) Q X:=
 Za (ns:=9) rfl rfl ((ZN (n:=1) (Us (by decide:1<8))).go (r:=r+5) a.as fun p1 h1=>(ZN (TP hb.le)).go (r:=r+5) h1.as fun p3 h3=>Mw.go (r:=r+7) h3 q)
theorem eT{m0:Int}{l:List Zm}{bs:List Int}(hm:Zx m0)(hl:Zz l)(hb:ZI 3 By bs)(a:RS O e pE X st p (Dt.enc ⟨m0,some l,bs⟩ 2 pad++m))(q:∀p',RS O e pE X st p' m→Q (Dt.in ⟨m0,some l,bs⟩) (st.c O p' e)):cN (r+10) 570 [.tag .cur] (st.c O p e) Q X:=
 Za (ns:=9) rfl rfl ((ZN (n:=2) (Us (by decide:2<8))).go (r:=r+5) a.as fun p1 h1=>(ZN hm).go (r:=r+5) h1.as fun p2 h2=>(Wm hl).go (r:=r) h2.as fun p3 h3=>(ZN (TP hb.le)).go (r:=r+5) h3.as fun p4 h4=>Mw.go (r:=r+7) h4 q)
theorem eO{x:Dt}{f:Nat}(h:x.Fm f):Rd 10 570 [] (x.enc f pad) x.in:=by
 constructor
 intro r st O p e pE Q X m a q
 cases h with
 |f0 hl hb=>exact eS hl hb a q
 |f1 hb=>exact eU hb a q
 |f2 hm hl hb=>exact eT hm hl hb a q
theorem Nc{t:Th}{f:Nat}(ht:t.Fm f)(h:RN O e pE X st t.texts pad p (t.enc f pad++m))(q:∀p',RS O e pE X st p' m→Q t.d (st.c O p' e)):cN (r+17) 950 [.tag .cur,.d (.int t.sort)] (st.c O p e) Q X:=by
 cases ht with
 |elem hx=>exact Za (ns:=6) rfl rfl ((eG hx).go (r:=r) h.rs q)
 |data hx=>exact Za (ns:=6) rfl rfl ((eO hx).go (r:=r+6) h.rs q)
 |rest ht hs=>cases ht with
  |elem _=>exact absurd hs (by show ¬2≤0;decide)
  |data _=>exact absurd hs (by show ¬2≤1;decide)
  |imp hx=>exact Za (ns:=6) rfl rfl (Eo (r:=r+8) hx (by have:=h;unfold Th.enc at this;rwa [b8,b8] at this) q)
  |typ ha hb=>exact Za (ns:=6) rfl rfl ((dQ ha hb).go (r:=r+8) h.rs q)
  |tab ha hb hc=>exact Za (ns:=6) rfl rfl ((K4 ha hb hc).go (r:=r+10) h.rs q)
  |mem ha hb=>exact Za (ns:=6) rfl rfl ((OY ha hb).go (r:=r+10) h.rs q)
  |glob ha hb=>exact Za (ns:=6) rfl rfl ((Na ha hb).go (r:=r+9) h.rs q)
  |exp hi=>exact Za (ns:=6) rfl rfl (En (r:=r+10) hi (by have:=h;unfold Th.enc at this;rwa [b8] at this) q)
end
noncomputable abbrev iL(l:List Int):D:= .list (l.map .int)
theorem Gr(n:Int)(m:Nat):∀k j,QU n m k j=(List.range' k j).map (Vk n m)
 |_,0=>rfl
 |k,j+1=>congrArg (List.cons _) (Gr n m (k+1) j)
theorem Er(n:Int)(m:Nat):groups n m=(fu m).map (Vk n m):=by unfold groups;rw[Gr,List.range_eq_range']
theorem All.of{α:Type}{P:α→Prop}:∀{l:List α},(∀a,a∈l→P a)→All P l
 |[],_=> .nil
 |a::l,h=> .cons (h a (.head _)) (.of fun b hb=>h b (.tail _ hb))
theorem Nf{m:Nat}:All (fun k=>k<m) (fu m):= .of fun k h=>l5.mp h
theorem UR{T:Nat→Bool}{t:Ev→St→(Bool→St→Prop)→Prop}{b:Ev→St→(Ev→St→Prop)→Prop}{mk:Nat→Ev}{st:St}{B:Nat}{N:Ev→St→Prop}(ht:∀k,1≤k→k≤B→∀K:Bool→St→Prop,K (T k) st→t (mk k) st K)
  (hb:∀k,∀K:Ev→St→Prop,K (mk (k+1)) st→b (mk k) st K) (hB:T B=false):∀{f k F:Nat},1≤k→k+f=B→f<F→N (mk (least T f k)) st→NS t b F (mk k) st N
 |0,k,F+1,h1,h,_,q=>ht k h1 (u6 h) _ (Zn (by rw[← hB,← h];rfl) q)
 |f+1,k,F+1,h1,h,hF,q=>ht k h1 (h▸br ..) _ (by
  unfold least at q
  cases e:T k with
  |false=>rw[e] at q;exact q
  |true=>rw[e] at q;exact hb k _ (UR ht hb hB (nq h1) (by rw[← h,w9];rfl) (gg hF) q))
theorem K5(a b:Nat):(if (b:Int)<(a:Int) then(b:Int) else a)=((min a b:Nat):Int):=by
 split
 ·rename_i c;rw[yu (rj (qd.mp c))]
 ·rename_i c;rw[Nat.min_eq_left (kh.mp (mh.mp c))]
theorem CB{k:Nat}(h:k≤1000):(decide (0≤(k:Int))&&(decide ((k:Int)≤1000)&&true))=true:=by rw[decide_eq_true (iu k),decide_eq_true (show(k:Int)≤1000 from kh.mpr h)];rfl
section
variable{r:Nat}{st:St}{n:Int}{Q:D→St→Prop}{X:Xp}{a b:List Int}{pad:Nat}
theorem Nd{m:Nat}(hm:m≤10)(q:Q (iL (groups n m)) st):cN (r+1) 881 [.d (.int n),.d (.int m)] st Q X:=by
 refine Za (ns:=5) rfl rfl (Zr (n:=m) (ao hm (by decide)) (Zr (n:=(YO m).length) ?_ (comp_map (P:=fun k=>k<m) (f:=fun k:Nat=> .int k) (g:=fun k=> .int (Vk n m k)) (fun k hk K h=> ?_) Nf ?_)))
 ·rw[YO,aq,gr];exact ao hm (by decide)
 ·refine Z5 (b:=decide (0≤(k:Int))&&(decide ((k:Int)≤1000)&&true)) (CB (ao (rj hk) (ao hm (by decide)))) (Z5 (b:=decide ((128:Int)^(k:Int).toNat≠0)) (decide_eq_true (w6 (UQ k))) ?_)
  have e:(n.fdiv (128^(k:Int).toNat)).fmod 128=U3 n k:=by
   show(n.fdiv (128^k)).fmod 128=_
   rw[jr _ (kg (UQ k)),xd _ (by decide)];rfl
  refine Zu (b:=decide ((k:Int)<(m:Int) - 1)) (fun g=> ?_) fun g=> ?_
  ·have h:K (some (.int (Vk n m k))) st:=h
   rw[WG (qd.mp (Int.add_lt_of_lt_sub_right (of_decide_eq_true g))),← e] at h;exact h
  ·have h:K (some (.int (Vk n m k))) st:=h
   rw[YV (zk hk (kh.mp (Int.le_add_of_sub_right_le (mh.mp (of_decide_eq_false g))))),← qa (U3 n k),← e] at h;exact h
 ·have:=Er n m
  unfold iL at q;rw[this,ko] at q;exact q
theorem Z9(hn:Zx n)(q:Q (iL (free n pad)) st):cN (r+2) 888 [.d (.int n),.d (.int pad)] st Q X:=by
 refine Za (ns:=6) rfl rfl (UR (T:=QV n) (B:=5) (f:=4) (k:=1) (mk:=fun k=>[some (.d (.int n)),some (.d (.int pad)),some (.d (.int k)),none,none,none]) (fun k _ hk K h=> ?_) (fun k K h=>h) (RW hn) (ew 1) rfl (by decide) ?_)
 ·refine Z5 (b:=decide (0≤(k:Int))&&(decide ((k:Int)≤1000)&&true)) (CB (ao hk (by decide))) h
 ·show cN (r+1) 881 [.d (.int n),.d (.int (if ((many n+pad:Nat):Int)<((5:Nat):Int) then((many n+pad:Nat):Int) else((5:Nat):Int)))] st _ X
  rw[K5]
  exact Nd (ao (qg ..) (by decide)) q
theorem CC{bits:Nat}(e:((bits:Int)+6).fdiv 7=((bits+6)/7:Nat))(hb:(bits+6)/7≤10)(hn:O5 n)(q:Q (iL (own n bits pad)) st):cN (r+2) 895 [.d (.int n),.d (.int bits),.d (.int pad)] st Q X:=by
 refine Za (ns:=7) rfl rfl (UR (T:=OS n) (B:=10) (f:=9) (k:=1) (mk:=fun k=>[some (.d (.int n)),some (.d (.int bits)),some (.d (.int pad)),some (.d (.int k)),none,none,none]) (fun k h1 hk K h=> ?_) (fun k K h=>h) (VK.mpr (OW hn)) (ew 1) rfl (by decide) ?_)
 ·have e0:(k:Int) - 1=((k - 1:Nat):Int):=(Int.ofNat_sub h1).symm
  have p:(decide (0≤(k:Int) - 1)&&(decide ((k:Int) - 1≤1000)&&true))=true:=e0▸CB (ao (z4 k 1) (ao hk (by decide)))
  have e:((k:Int) - 1).toNat=k - 1:=congrArg Int.toNat e0
  unfold OS at h
  rw[← e] at h
  refine Z5 p (Zu (b:=decide (n< -64*128^((k:Int) - 1).toNat)) (fun g=> ?_) fun g=>Z5 p ?_)
  ·rw[g] at h;exact h
  ·rw[g] at h;exact h
 ·show cN (r+1) 881 [.d (.int n),.d (.int (if ((Xx n+pad:Nat):Int)<((bits:Int)+6).fdiv 7 then((Xx n+pad:Nat):Int) else((bits:Int)+6).fdiv 7))] st _ X
  rw[e,K5]
  exact Nd (ao (qg ..) hb) q
end
structure Oc(n:Nat)(w:List Int):Prop where
 Vl:All By w
 le:w.length≤n
theorem All.app{α:Type}{P:α→Prop}:∀{a b:List α},All P a→All P b→All P (a++b):=fun {a b} h k=>by
 induction a with
 |nil=>exact k
 |cons x a ih=>exact .cons h.un.a (ih h.un.r)
theorem Oc.app{a b:List Int}{n m:Nat}(h:Oc n a)(g:Oc m b):Oc (n+m) (a++b):=⟨h.Vl.app g.Vl,by rw[b4];exact l8 h.le g.le⟩
theorem Oc.one{x:Int}{b:List Int}{n:Nat}(h:By x)(g:Oc n b):Oc (n+1) (x::b):=⟨.cons h g.Vl,cj g.le⟩
theorem Oc.nil{n:Nat}:Oc n []:=⟨.nil,ie _⟩
theorem Oc.mono{n m:Nat}{w:List Int}(h:Oc n w)(g:n≤m):Oc m w:=⟨h.Vl,ao h.le g⟩
theorem Mx{n:Int}{m:Nat}:∀{j k:Nat},Oc j (QU n m k j)
 |0,_=> .nil
 |j+1,k=> .one VJ Mx
theorem Zf{n:Int}{pad:Nat}:Oc 5 (free n pad):=Mx.mono (qg ..)
theorem My{n:Int}{bits pad:Nat}(h:(bits+6)/7≤10):Oc 10 (own n bits pad):=Mx.mono (ao (qg ..) h)
theorem Vm(a b:List Int):D.list (a.map .int++b.map .int)=iL (a++b):=congrArg D.list bf.symm
noncomputable def ones(l:List Int):List (List Int × D):=l.map fun b=>([b],.int b)
theorem Ng:∀l:List Int,flat (ones l)=l
 |[]=>rfl
 |a::l=>congrArg (List.cons a) (Ng l)
theorem Aa8{n:Nat}(h:n≤4):Zx (n:Int):=⟨iu _,mj (kh.mpr h) (by decide)⟩
abbrev Parts(l:List (List Int × D)):Prop:=ZI 4 (fun x=>Oc 40 x.1) l
theorem eW:∀{l:List (List Int × D)},All (fun x=>Oc 40 x.1) l→Oc (l.length*40) (flat l):=fun {l} h=>by
 induction l with
 |nil=>exact .nil
 |cons x l ih=>exact(h.un.a.app (ih h.un.r)).mono (by rw[jx,z6,we];exact ew _)
theorem Parts.oc{l:List (List Int × D)}{pad:Nat}(h:Parts l):Oc 165 (free l.length pad++flat l):=(Zf.app (eW h.all)).mono (ao (d9 (ri 40 h.le) 5) (by decide))
theorem X5{a b:List Int}{n m:Nat}{K:Prop}(ha:Oc n a)(hb:Oc m b)(hm:n+m≤1000)(q:K):lim (a.map D.int++b.map D.int).length K:=
 Zr (by rw[b4,aq,aq];exact ao (l8 ha.le hb.le) (ao hm (by decide))) q
noncomputable def CD:PS:=VD (Ye (Z1 1 Tv))
section
variable{r:Nat}{st:St}{n:Int}{Q:D→St→Prop}{X:Xp}{a b:List Int}{pad:Nat}
theorem eV{d:D}{R:D→St→Prop}{N:Ev→St→Prop}:∀{parts:List (List Int × D)} {acc:List Int} {n:Nat} {s3:Option S},All (fun x=>Oc 40 x.1) parts→Oc n acc→n+parts.length*40≤1000→(∀s3,N [some (.d d),some (.d (.int pad)),some (.d (iL (acc++flat parts))),s3,none,none,none] st)→
  XV (fun env st k=>wpS (cx r) CD env st k R X) [3] (parts.map fun x=>iL x.1) [some (.d d),some (.d (.int pad)),some (.d (iL acc)),s3,none,none,none] st N:=fun {parts acc n s3} hp ha hn q=>by
 induction parts generalizing acc n s3 with
 |nil=>have:=q s3;unfold flat at this;rw[bw] at this;exact this
 |cons x parts ih=>
  have hx:=hp.un.a
  rw[jx,z6,we _ 40,← A0q] at hn
  refine X5 ha hx (ao (br _ _) hn) ?_
  rw[Vm]
  exact ih hp.un.r (ha.app hx) hn fun s=>by rw[b8];exact q s
theorem Gs{parts:List (List Int × D)}(h:Parts parts)(q:Q (iL (free parts.length pad++flat parts)) st):cN (r+3) 902 [.d (.list (parts.map fun x=>iL x.1)),.d (.int pad)] st Q X:=by
 refine Za (ns:=7) rfl rfl ?_
 have f:∀{Q:D→St→Prop},Q (iL (free parts.length pad)) st→cN (r+2) 888 [.d (.int (parts.map fun x=>iL x.1).length),.d (.int pad)] st Q X:=fun q=>by rw[aq];exact Z9 (Aa8 h.le) q
 exact f (eV h.all Zf (ao (d9 (ri 40 h.le) 5) (by decide)) fun s=>q)
theorem Tx.Vl(x:Tx):All By x.o:=by
 cases x with
 |a=>exact .cons rfl .nil
 |e=>exact .nil
 |eb=>exact .cons rfl (.cons rfl (.cons rfl .nil))
 |eu=>exact .cons rfl (.cons rfl (.cons rfl .nil))
 |go=>exact .cons rfl (.cons rfl (.cons rfl (.cons rfl .nil)))
end
theorem IA{l:List Int}{n:Nat}(h:ZI n By l)(hn:n≤4):Parts (ones l):=⟨by unfold ones;rw[aq];exact ao h.le hn,h.all.map (R:=fun x:List Int × D=>Oc 40 x.1) fun b hb=>(Oc.one (n:=0) hb .nil).mono (m:=40) (by decide)⟩
theorem CF(l:List Int):(ones l).map (fun x=>iL x.1)=l.map fun b=> .list [.int b]:=ko
section
variable{r:Nat}{st:St}{n:Int}{Q:D→St→Prop}{X:Xp}{a b:List Int}{pad:Nat}
theorem Mz{g:Int→Int}{l:List Int}{k:Nat}(h:ZI k By (l.map g))(hk:k≤4)(q:Q (iL (free l.length pad++l.map g)) st):cN (r+3) 902 [.d (.list (l.map fun b=> .list [.int (g b)])),.d (.int pad)] st Q X:=by
 have:=Gs (r:=r) (st:=st) (Q:=Q) (X:=X) (pad:=pad) (IA h hk) (by rw[Ng];unfold ones;rw[aq,aq];exact q)
 rw[CF,ko] at this
 exact this
end
theorem Wo{x:Tx}{pad:Nat}:Oc 9 (Y4 x pad):=Zf.app ⟨x.Vl,x.le⟩
section
variable{r:Nat}{st:St}{n:Int}{Q:D→St→Prop}{X:Xp}{a b:List Int}{pad:Nat}
theorem K6{x:Tx}:XQ 4 (.str x.s)=some (iL x.o):=by cases x<;>kernel_rfl
theorem Qd{x:Tx}(q:Q (iL (Y4 x pad)) st):cN (r+4) 907 [.d (.str x.s),.d (.int pad)] st Q X:=by
 refine Za (ns:=5) rfl rfl (Yh K6 (Zr (by rw[aq];exact ao x.le (by decide)) (comp_map (P:=By) (f:= .int) (g:=fun b=> .list [.int b]) (fun a _ k hk=>hk) x.Vl ?_)))
 exact Mz (g:=fun b=>b) (k:=4) (by rw[wg];exact⟨x.le,x.Vl⟩) (by decide) (by rw[wg];exact q)
theorem Pe(acc:List Int)(c:Int)(w:List Int):acc.map D.int++[.int c]++w.map D.int=(acc++c::w).map D.int:=by rw[bf,b8];rfl
theorem I9{k:Int}(h:In (-64) 0 k):By (128+k):=OT ⟨by have:=h.lo;omega,by have:=h.hi;omega⟩
theorem Zm.sT{i:Zm}{pad:Nat}(hi:i.Ok):Oc 10 (i.Ek pad):=by
 cases i with
 |Dx a=>exact My (by decide)
 |Cu a=>exact My (by decide)
 |glob a=>exact Zf.mono (by decide)
 |fn a=>exact Zf.mono (by decide)
 |null k=>exact(Oc.one (n:=0) (I9 (Rk.xT hi)) .nil).mono (by decide)
 |add=>exact .nil
theorem Zm.CE(i:Zm){pad:Nat}(hi:i.Ok):Oc 11 (i.enc pad):= .one (by cases i<;>rfl) (sT hi)
noncomputable def lbB:PS:=VD (Ye (Z1 1 Tw))
theorem sU{d:D}{R:D→St→Prop}{N:Ev→St→Prop}:∀{l:List Zm} {acc:List Int} {n:Nat} {s3 s4:Option S},All Zm.Ok l→Oc n acc→n+l.length*11+1≤1000→(∀s3 s4,N [some (.d d),some (.d (.int pad)),some (.own ((acc++SK l pad).map .int)),s3,s4,none,none,none] st)→
  XV (fun env st k=>wpS (cx (r+2)) lbB env st k R X) [3] (l.map Zm.d++[i1 11]) [some (.d d),some (.d (.int pad)),some (.own (acc.map .int)),s3,s4,none,none,none] st N:=fun {l acc n s3 s4} hl ha hn q=>by
 induction l generalizing acc n s3 s4 with
 |nil=>
  refine Zr (by rw[aq];exact ao (cj (ao ha.le (iw (hn:n+1≤999+1)))) (by decide)) ?_
  have:=q (some (.d (i1 11))) (some (.d (.int 11)))
  unfold SK at this
  rw[bf] at this
  exact this
 |cons i l ih=>
  have hi:=hl.un.a
  rw[jx,z6,we _ 11,← A0q] at hn
  have n11:n+11≤999:=ao (br _ _) (iw hn)
  have l1:(acc.map D.int).length+1≤YU:=by rw[aq];exact ao (cj (ao ha.le (ao (br n 11) n11))) (by decide)
  have key:∀s3 s4,XV (fun env st k=>wpS (cx (r+2)) lbB env st k R X) [3] (l.map Zm.d++[i1 11]) [some (.d d),some (.d (.int pad)),some (.own ((acc++i.enc pad).map .int)),s3,s4,none,none,none] st N:=fun s3 s4=>
   ih hl.un.r (ha.app (i.CE hi)) hn fun s3 s4=>by rw[b8];exact q s3 s4
  have l2:∀{w:List Int},Oc 10 w→(acc.map D.int++[D.int i.code]++w.map D.int).length≤YU:=fun {w} hw=>by
   rw[b4,b4,aq,aq];exact ao (l8 (l8 ha.le (ew 1)) hw.le) (ao (nq n11) (by decide))
  cases i with
  |Dx a=>exact Zr l1 (CC (r:=r) (bits:=32) rfl (by decide) hi.wide (Zr (l2 (My (by decide))) (by rw[Pe];exact key _ _)))
  |Cu a=>exact Zr l1 (CC (r:=r) (bits:=64) rfl (by decide) hi (Zr (l2 (My (by decide))) (by rw[Pe];exact key _ _)))
  |glob a=>exact Zr l1 (Z9 (r:=r) hi (Zr (l2 (Zf.mono (by decide))) (by rw[Pe];exact key _ _)))
  |fn a=>exact Zr l1 (Z9 (r:=r) hi (Zr (l2 (Zf.mono (by decide))) (by rw[Pe];exact key _ _)))
  |null k=>
   have h:=key (some (.d (Zm.d (.null k)))) (some (.d (.int 208)))
   rw[show(acc++(Zm.null k).enc pad).map D.int=_ from(Pe acc 208 [128+k]).symm] at h
   exact Zr l1 (Zr (by rw[b4,aq];exact ao (cj (cj (ao ha.le (Nat.le_of_add_le_add_right n11:n≤988)))) (by decide)) h)
  |add=>
   have h:=key (some (.d (Zm.d .add))) (some (.d (.int 106)))
   rw[show(acc++Zm.add.enc pad).map D.int=acc.map D.int++[.int 106] from bf] at h
   exact Zr l1 h
theorem WI{l:List Zm}(h:Zz l)(q:Q (iL (SK l pad)) st):cN (r+3) 914 [.d (XG l),.d (.int pad)] st Q X:=by
 refine Za (ns:=8) rfl rfl ?_
 refine sU (r:=r) (pad:=pad) (acc:=[]) (n:=0) h.all .nil ?_ fun s3 s4=>q
 exact ao (cj (d9 (ri 11 h.le) 0)) (by decide)
end
theorem eY{pad:Nat}:∀{l:List Zm},All Zm.Ok l→Oc (l.length*11+1) (SK l pad):=fun {l} h=>by
 induction l with
 |nil=>exact .one rfl .nil
 |cons i l ih=>exact((i.CE h.un.a).app (ih h.un.r)).mono (u6 (by rw[jx,z6,we,Nat.add_right_comm]))
theorem ZF{pad:Nat}{l:List Zm}(h:Zz l):Oc 34 (SK l pad):=(eY h.all).mono (cj (ao (ri 11 h.le) (by decide)))
theorem Kd.Vl{k:Int}(h:Kd k):By (128+k):=I9 h.xT
theorem Rk.Vl{k:Int}(h:Rk k):By (128+k):=I9 h.xT
theorem lX.Vl{k:Int}(h:lX k):By k:=by cases h<;>rfl
theorem Qe{a:Int}{b:Option Int}{pad:Nat}:Oc 11 (Pb a b pad):=by
 cases b with
 |none=>exact(Oc.one rfl Zf).mono (by decide)
 |some b=>exact .one rfl (Zf.app Zf)
theorem Ab.oc{x:Ab}{pad:Nat}(h:x.Ok):Oc 12 (x.enc pad):=by
 cases h with
 |idx a=>exact Zf.mono (by decide)
 |tab a b c=>exact .one a.Vl Qe
 |mem a b=>exact Qe.mono (by decide)
 |glob a b=>exact(Oc.one a.Vl (.one (n:=0) b.Vl .nil)).mono (by decide)
section
variable{r:Nat}{st:St}{n:Int}{Q:D→St→Prop}{X:Xp}{a b:List Int}{pad:Nat}
theorem TQ{x:Ab}(hx:x.Ok)(q:Q (iL (x.enc pad)) st):cN (r+3) 931 [.d x.d,.d (.int x.sort),.d (.int pad)] st Q X:=by
 cases hx with
 |idx a=>exact Za (ns:=9) rfl rfl (Z9 a q)
 |glob a b=>exact Za (ns:=9) rfl rfl q
 |tab hk ha hb=>cases hb with
  |no=>exact Za (ns:=9) rfl rfl (Z9 (r:=r) ha (X5 (a:=[_,_]) (n:=2) ⟨.cons hk.Vl (.cons rfl .nil),ew 2⟩ Zf (by decide) q))
  |@so b hb=>
   have q:Q (iL ((_::1::free _ pad)++free b pad)) st:=q
   rw[← Vm] at q
   exact Za (ns:=9) rfl rfl (Z9 (r:=r) ha (X5 (a:=[_,_]) (n:=2) ⟨.cons hk.Vl (.cons rfl .nil),ew 2⟩ Zf (by decide) (Z9 (r:=r) hb (X5 (a:=_::1::free _ pad) (.one hk.Vl (.one rfl Zf)) Zf (by decide) q))))
 |mem ha hb=>cases hb with
  |no=>exact Za (ns:=9) rfl rfl (Z9 (r:=r) ha (X5 (a:=[_]) (n:=1) ⟨.cons rfl .nil,ew 1⟩ Zf (by decide) q))
  |@so b hb=>
   have q:Q (iL ((1::free _ pad)++free b pad)) st:=q
   rw[← Vm] at q
   exact Za (ns:=9) rfl rfl (Z9 (r:=r) ha (X5 (a:=[_]) (n:=1) ⟨.cons rfl .nil,ew 1⟩ Zf (by decide) (Z9 (r:=r) hb (X5 (a:=1::free _ pad) (.one rfl Zf) Zf (by decide) q))))
end
inductive Dt.Fs:Dt→Nat→List Nat→Prop
 |cM {bs:List Int}:ZI 3 By bs→Fs ⟨0,none,bs⟩ 1 []
 |low {l:List Zm} {bs:List Int}:Zz l→ZI 3 By bs→Fs ⟨0,some l,bs⟩ 0 [2]
 |act {m:Int} {l:List Zm} {bs:List Int}:m≠0→Zx m→Zz l→ZI 3 By bs→Fs ⟨m,some l,bs⟩ 2 []
section
variable{r:Nat}{st:St}{n:Int}{Q:D→St→Prop}{X:Xp}{a b:List Int}{pad:Nat}
theorem ZI.oc{n:Nat}{l:List Int}(h:ZI n By l):Oc n l:=⟨h.all,h.le⟩
theorem Es{x:Dt}(hx:x.Ok)(q:∀f fs,x.Fs f fs→Q (.list ((f::fs).map fun g=>iL (x.enc g pad))) st):cN (r+4) 924 [.d x.d,.d (.int pad)] st Q X:=by
 have sing:∀{bs:List Int} {Q:D→St→Prop},ZI 3 By bs→Q (iL (free bs.length pad++bs)) st→cN (r+3) 902 [.d (.list (bs.map fun b=> .list [.int b])),.d (.int pad)] st Q X:=fun {bs Q} h q=>
  Mz (g:=fun b=>b) (k:=3) (by rw[wg];exact h) (by decide) (by rw[wg];exact q)
 have lim3:∀{bs:List Int},ZI 3 By bs→(bs.map D.int).length≤YU:=fun h=>by rw[aq];exact ao h.le (by decide)
 cases hx with
 |@cM bs hb=>
  have q:=q 1 [] (.cM hb)
  refine Za (ns:=11) rfl rfl (Zr (lim3 hb) (comp_map (P:=By) (f:= .int) (g:=fun b=> .list [.int b]) (fun a _ k hk=>hk) hb.all ?_))
  refine sing hb (Z9 (r:=r+1) (n:=1) (Us (by decide:1<8)) (X5 Zf (Zf.app hb.oc) (by decide) ?_))
  rw[Vm];exact q
 |@act m0 l bs hm hl hb=>
  refine Za (ns:=11) rfl rfl (Zr (lim3 hb) (comp_map (P:=By) (f:= .int) (g:=fun b=> .list [.int b]) (fun a _ k hk=>hk) hb.all ?_))
  refine sing hb (WI (r:=r) hl (X5 (ZF hl) (Zf.app hb.oc) (by decide) ?_))
  rw[Vm]
  refine Z9 (r:=r+1) (n:=2) (Us (by decide:2<8)) (Z9 (r:=r+1) hm (X5 Zf Zf (by decide) ?_))
  rw[Vm]
  refine X5 (Zf.app Zf) ((ZF hl).app (Zf.app hb.oc)) (by decide) ?_
  rw[Vm,b8]
  refine Zu (b:=decide (m0=0)) (fun g=> ?_) fun g=> ?_
  ·have g:=of_decide_eq_true g
   subst g
   have q:=q 0 [2] (.low hl hb)
   refine Z9 (r:=r+1) (n:=0) (Us (by decide:0<8)) (X5 Zf ((ZF hl).app (Zf.app hb.oc)) (by decide) ?_)
   rw[Vm];exact q
  ·exact q 2 [] (.act (of_decide_eq_false g) hm hl hb)
end
noncomputable abbrev St.k(st:St)(w:List Int):St:={st with sink:=some w}
structure WS(T s m:List Int):Prop where
 eq:s++m=T
 le:T.length≤YU
theorem WS.nx{T s m:List Int}{x:Int}(h:WS T s (x::m)):WS T (s++[x]) m:=⟨by rw[← h.eq,b8];rfl,h.le⟩
theorem WS.app{T s m w:List Int}(h:WS T s (w++m)):WS T (s++w) m:=⟨by rw[← h.eq,b8],h.le⟩
theorem WS.as{T s m a b:List Int}(h:WS T s ((a++b)++m)):WS T s (a++(b++m)):=b8 a b m▸h
theorem WS.len{T s m w:List Int}(h:WS T s (w++m)):(s++w).length≤YU:=by
 have:=h.le;rw[← h.eq,← b8,b4] at this;exact ao (br ..) this
theorem WS.CG{T s m:List Int}{x:Int}(h:WS T s (x::m)):s.length+1≤YU:=by have:=h.len (w:=[x]);rwa [b4] at this
structure Wr(n f:Nat)(as:List S)(w:List Int):Prop where
 go:∀{r:Nat} {st:St} {T s m:List Int} {Q:D→St→Prop} {X:Xp},WS T s (w++m)→(∀s',WS T s' m→Q .none (st.k s'))→cN (r+n) f (.tag .sink::as) (st.k s) Q X
theorem Yl{x:Int}(h:By x):Wr 1 711 [.d (.int x)] [x]:=⟨fun a q=>Za (ns:=5) rfl rfl (Zr a.CG (Z5 h (q _ a.nx)))⟩
theorem M0{w:List Int}:Wr 1 718 [.d (.bytes w)] w:=⟨fun a q=>Za (ns:=5) rfl rfl (Zr a.len (q _ a.app))⟩
theorem CJ{k:Int}(h:Kd k):fy k 127=128+k:=by cases h<;>decide+kernel
theorem CH{x y:Int}(e:x=y)(h:By y):Wr 1 711 [.d (.int x)] [y]:=by subst e;exact Yl h
theorem Vn{k:Int}(h:Kd k):Wr 2 278 [.d (.int k)] [128+k]:=⟨fun a q=>Za (ns:=5) rfl rfl ((CH (CJ h) h.Vl).go a q)⟩
theorem AaA:∀x:Nat,x<128→yh (x:Int) 128=x+128:=by decide+kernel
theorem M1(n:Int)(k:Nat):yh (fy (n/128^k) 127) 128=U3 n k+128:=by
 rw[bitAnd_m7]
 have h:=Wk n k
 obtain⟨x,hx⟩:=oj h.lo
 show yh (U3 n k) 128=_
 rw[hx];exact AaA x (qd.mp (hx▸h.hi))
theorem K7(n:Int)(k:Nat):(n/128^k).fdiv (2^(7:Int).toNat)=n/128^(k+1):=by
 rw[jr _ (by decide),QZ,← Int.ediv_ediv_of_nonneg (kg (UQ k))];rfl
theorem eZ{n:Int}(h:Zx n){k:Nat}(hk:k+1<many n):128≤n/128^k:=by
 have:=of_decide_eq_true (SJ (T:=QV n) (i:=k+1) (f:=4) (k:=1) (n9 ..) hk)
 rw[QZ,z3] at this
 exact(qc (UQ k)).mpr this
theorem Gv{n:Int}(h:Zx n){k:Nat}(hk:k+1=many n):n/128^k<128:=by
 have:=of_decide_eq_false (TM (T:=QV n) (f:=4) (k:=1) (RW h))
 rw[show least (QV n) 4 1=k+1 from hk.symm,QZ] at this
 exact(m7 (UQ k)).mpr (by rw[z3];exact jc.mp this)
theorem Qg{n j m:Nat}(h:n+(j+1+1)=m):n+1+(j+1)=m∧n+1<m:=have e:n+1+(j+1)=m:=(w9 n (j+1)).trans h;⟨e,e▸yt (qb j)⟩
noncomputable def Ad1:PS:=VD (Ye (Z1 1 WE))
theorem CI{r:Nat}{st:St}{T m:List Int}{n v:Int}{Q:D→St→Prop}{X:Xp}{N:Ev→St→Prop}(hn:Zx n)
  (q:∀s k,k+1=many n→WS T s (U3 n k::m)→N [some (.tag .sink),some (.d (.int (n/128^k))),none,none,none] (st.k s)):∀{j k F:Nat} {s:List Int},k+(j+1)=many n→j<F→v=n/128^k→WS T s (QU n (many n) k (j+1)++m)→
  NS (fun env st k=>L6 (cx r) (.cmp .GtE (.var 1) (.lit (.int 128))) env st k X) (fun env st k=>wpS (cx r) Ad1 env st k Q X) F [some (.tag .sink),some (.d (.int v)),none,none,none] (st.k s) N
 |0,k,F+1,s,hk,hF,hv,h=>by
  subst hv
  have h:WS T s (Vk n (many n) k::m):=h
  rw[YV hk] at h
  exact Zn (b:=decide (128≤n/128^k)) (decide_eq_false (jc.mpr (Gv hn hk))) (q s k hk h)
 |j+1,k,F+1,s,hk,hF,hv,h=>by
  subst hv
  have hl:=(Qg hk).2
  have h:WS T s (Vk n (many n) k::(QU n (many n) (k+1) (j+1)++m)):=h
  refine Wg (b:=decide (128≤n/128^k)) (decide_eq_true (eZ hn hl)) (Zr h.CG (Z5 ?_ ?_))
  ·rw[M1,← WG hl];exact VJ
  ·rw[M1,← WG hl]
   exact CI hn q (Qg hk).1 (gg hF) (K7 n k) h.nx
theorem Et{n:Int}(hn:Zx n):free n 0=groups n (many n):=by unfold free;rw[Nat.add_zero,yu (RY hn).hi]
theorem Yc{n:Int}(hn:Zx n):Wr 1 725 [.d (.int n)] (free n 0):=by
 constructor
 intro r st T s m Q X a q
 obtain⟨j,hj⟩:∃j,many n=j+1:=RZ (RY hn).lo
 rw[Et hn] at a
 have a:WS T s (QU n (many n) 0 (j+1)++m):=by rw[← hj];exact a
 refine Za (ns:=5) rfl rfl (Zn (b:=decide (n<0)) (decide_eq_false (mh.mpr hn.lo)) (CI hn (fun s k hk h=> ?_) (k:=0) (j:=j) ((wc _).trans hj.symm) (gv (hj▸gp j) (ao (RY hn).hi (by decide))) (A0J n).symm a))
 have e:n/128^k=U3 n k:=(nk (vm hn.lo (kg (UQ k))) (Gv hn hk)).symm
 refine Zr h.CG (Z5 ?_ ?_)
 ·rw[e,← YV hk];exact VJ
 ·rw[e];exact q _ h.nx
theorem Gu{n:Int}{k:Nat}:Mp n (k+1)↔In (-64) 64 (n/128^k):=
 ⟨fun h=>Mq h,fun h=>⟨by have:=(qc (UQ k)).mp h.lo;rwa [Int.neg_mul] at this,(m7 (UQ k)).mp h.hi⟩⟩
noncomputable def sV:PS:=VD (Ye Wj)
noncomputable def Aa9:PE:=match Ye Wj with| .wh t _=>t|_=> .bad
theorem CK{r:Nat}{st:St}{T m:List Int}{n v:Int}{Q:D→St→Prop}{X:Xp}{N:Ev→St→Prop}(hn:O5 n)
  (q:∀s k,k+1=Xx n→WS T s (U3 n k::m)→N [some (.tag .sink),some (.d (.int (n/128^k))),none,none,none] (st.k s)):∀{j k F:Nat} {s:List Int},k+(j+1)=Xx n→j<F→v=n/128^k→WS T s (QU n (Xx n) k (j+1)++m)→
  NS (fun env st k=>L6 (cx r) Aa9 env st k X) (fun env st k=>wpS (cx r) sV env st k Q X) F [some (.tag .sink),some (.d (.int v)),none,none,none] (st.k s) N
 |0,k,F+1,s,hk,hF,hv,h=>by
  subst hv
  have h:WS T s (Vk n (Xx n) k::m):=h
  rw[YV hk] at h
  have f:=Gu.mp ((show Xx n=k+1 from hk.symm)▸OX hn)
  refine Wg (b:=decide (-64≤n/128^k)) (decide_eq_true f.lo) (Zn (b:= !decide (n/128^k<64)) (by rw[decide_eq_true f.hi];rfl) (q s k hk h))
 |j+1,k,F+1,s,hk,hF,hv,h=>by
  subst hv
  have hl:=(Qg hk).2
  have h:WS T s (Vk n (Xx n) k::(QU n (Xx n) (k+1) (j+1)++m)):=h
  have nf:¬Mp n (k+1):=fun c=>by
   have:=VK.mpr c
   rw[SJ (T:=OS n) (i:=k+1) (f:=9) (k:=1) (n9 ..) hl] at this;cases this
  have go:wpS (cx r) sV [some (.tag .sink),some (.d (.int (n/128^k))),none,none,none] (st.k s) (fun env st=>NS (fun env st k=>L6 (cx r) Aa9 env st k X) (fun env st k=>wpS (cx r) sV env st k Q X) F env st N) Q X:=by
   refine Zr h.CG (Z5 ?_ ?_)
   ·rw[M1,← WG hl];exact VJ
   ·rw[M1,← WG hl]
    exact CK hn q (Qg hk).1 (gg hF) (K7 n k) h.nx
  refine Zu (b:=decide (-64≤n/128^k)) (fun g=>Wg (b:= !decide (n/128^k<64)) ?_ go) fun g=>go
  rw[decide_eq_false fun c=>nf (Gu.mpr ⟨of_decide_eq_true g,c⟩)];rfl
theorem CL{n:Int}{bits:Nat}(hn:O5 n)(hb:Xx n≤(bits+6)/7):Wr 1 732 [.d (.int n)] (own n bits 0):=by
 constructor
 intro r st T s m Q X a q
 have h1:=WH (OW hn) (by decide)
 obtain⟨j,hj⟩:∃j,Xx n=j+1:=RZ h1.lo
 have a:WS T s (QU n (Xx n) 0 (j+1)++m):=by
  unfold own groups at a;rw[show min ((bits+6)/7) (Xx n+0)=Xx n from yu hb] at a;rw[← hj];exact a
 refine Za (ns:=5) rfl rfl (CK hn (fun s k hk h=> ?_) (k:=0) (j:=j) ((wc _).trans hj.symm) (gv (hj▸gp j) (ao h1.hi (by decide))) (A0J n).symm a)
 have e:fy (n/128^k) 127=U3 n k:=bitAnd_m7 ..
 refine Zr h.CG (Z5 ?_ ?_)
 ·rw[e,← YV hk];exact VJ
 ·rw[e];exact q _ h.nx
theorem Rk.kd{k:Int}(h:Rk k):Kd k:=by cases h;exact .c;exact .d
theorem TR{n:Int}(hn:Zx n):Wr 2 739 [.d (.int n)] (free n 0):=⟨fun a q=>Za (ns:=5) rfl rfl ((Yc hn).go a q)⟩
theorem Nj{a:Int}{b:Option Int}(ha:Zx a)(hb:Ed Zx b):Wr 2 292 [.d (.int a),.d (SI b)] (Pb a b 0):=by
 cases hb with
 |no=>exact⟨fun h q=>Za (ns:=6) rfl rfl ((Yl rfl).go h fun s1 h1=>(Yc ha).go h1 q)⟩
 |so hb=>exact⟨fun h q=>Za (ns:=6) rfl rfl ((Yl rfl).go h fun s1 h1=>(Yc ha).go h1.as fun s2 h2=>(Yc hb).go h2 q)⟩
theorem Nh{a:Int}{b:Option Int}(ha:Zx a)(hb:Ed Zx b):Wr 3 313 [.d (.tup [.int a,SI b])] (Pb a b 0):=⟨fun h q=>Za (ns:=7) rfl rfl ((Nj ha hb).go h q)⟩
theorem K9{k a:Int}{b:Option Int}(hk:Rk k)(ha:Zx a)(hb:Ed Zx b):Wr 3 306 [.d (.tup [.int k,.int a,SI b])] ((128+k)::Pb a b 0):=
 ⟨fun h q=>Za (ns:=8) rfl rfl ((Vn hk.kd).go h fun s1 h1=>(Nj ha hb).go h1 q)⟩
theorem Ni{k m:Int}(hk:Kd k)(hm:lX m):Wr 3 320 [.d (.tup [.int k,.int m])] [128+k,m]:=
 ⟨fun h q=>Za (ns:=7) rfl rfl ((Vn hk).go h fun s1 h1=>(Yl hm.Vl).go h1 q)⟩
theorem fB{r:Nat}{st:St}{x:Tx}{Q:D→St→Prop}{X:Xp}(q:Q (.bytes x.o) st):cN (r+1) 767 [.d (.str x.s)] st Q X:=by cases x<;>exact run (r:=r) 1 q (by kernel_rfl)
theorem M3{x:Tx}:Wr 2 746 [.d (.str x.s)] (Y4 x 0):=
 ⟨fun a q=>Za (ns:=6) rfl rfl (fB ((Yc (Aa8 x.le)).go a.as fun s1 h1=>Zr h1.len (q _ h1.app)))⟩
theorem K8{r:Nat}{st:St}{T m:List Int}{d:D}{Q:D→St→Prop}{X:Xp}{N:Ev→St→Prop}:∀{ks:List Int} {s:List Int} {s2:Option S},All Kd ks→WS T s (ks.map (128+ ·)++m)→(∀s s2,WS T s m→N [some (.tag .sink),some (.d d),s2,none,none,none] (st.k s))→
  XV (fun env st k=>wpS (cx (r+2)) (VD (Ye (Z1 1 TJ))) env st k Q X) [2] (ks.map .int) [some (.tag .sink),some (.d d),s2,none,none,none] (st.k s) N
 |[],s,s2,_,h,q=>q s s2 h
 |k::ks,s,s2,.cons hk hl,h,q=>(Vn hk).go h fun s1 h1=>K8 hl h1 q
theorem KC{ks:List Int}(h:ZI 2 Kd ks):Wr 3 285 [.d (.tup (ks.map .int))] (K3 ks 0):=⟨fun {r st T s m Q X} a q=>by
 refine Za (ns:=6) rfl rfl ?_
 have f:∀{Q:D→St→Prop},(∀s',WS T s' (ks.map (128+ ·)++m)→Q .none (st.k s'))→cN (r+2) 739 [.tag .sink,.d (.int (ks.map D.int).length)] (st.k s) Q X:=fun q=>by rw[aq];exact(TR (TP (ao h.le (by decide)))).go a.as q
 exact f fun s1 h1=>K8 h.all h1 fun s s2 h2=>q s h2⟩
theorem fC{ps rs:List Int}(hp:ZI 2 Kd ps)(hr:ZI 2 Kd rs):Wr 4 299 [.d (.tup [.tup (ps.map .int),.tup (rs.map .int)])] (C7 ps rs 0):=
 ⟨fun h q=>Za (ns:=7) rfl rfl ((Yl rfl).go h fun s1 h1=>(KC hp).go h1.as fun s2 h2=>(KC hr).go h2 q)⟩
theorem Eu{a b:Tx}{x:Ab}(hx:x.Ok):Wr 4 327 [.d (.inst 2 [.str a.s,.str b.s,.int x.sort,x.d])] (Y4 a 0++(Y4 b 0++x.sort::x.enc 0)):=by
 constructor
 intro r st T s m Q X h q
 refine Za (ns:=5) rfl rfl (M3.go (r:=r+1) h.as fun s1 h1=>M3.go (r:=r+1) h1.as fun s2 h2=> ?_)
 cases hx with
 |idx a=>exact(Yl rfl).go (r:=r+2) h2 fun s3 h3=>(Yc a).go (r:=r+2) h3 q
 |tab a b c=>exact(Yl rfl).go (r:=r+2) h2 fun s3 h3=>(K9 a b c).go (r:=r) h3 q
 |mem a b=>exact(Yl rfl).go (r:=r+2) h2 fun s3 h3=>(Nh a b).go (r:=r) h3 q
 |glob a b=>exact(Yl rfl).go (r:=r+2) h2 fun s3 h3=>(Ni a b).go (r:=r) h3 q
theorem Qh(s:Fin 4):By (s.val:Int):=OT ⟨by omega,by have:=s.isLt;omega⟩
theorem Ew{a:Tx}{s:Fin 4}{i:Int}(hi:Zx i):Wr 3 334 [.d (.tup [.str a.s,.int s.val,.int i])] (Y4 a 0++(s.val:Int)::free i 0):=
 ⟨fun {r _ _ _ _ _ _} h q=>Za (ns:=8) rfl rfl (M3.go (r:=r) h.as fun s1 h1=>(Yl (Qh s)).go (r:=r+1) h1 fun s2 h2=>(Yc hi).go (r:=r+1) h2 q)⟩
theorem Cd.Vl{c:Int}{t:Str}(h:Cd c t):By c:=by
 cases h with
 |ins i=>cases i<;>rfl
 |fin=>rfl
theorem Cd.low{c:Int}{t:Str}(h:Cd c t):decide (c<64512)=true:=by
 cases h with
 |ins i=>cases i<;>rfl
 |fin=>rfl
theorem Gw{c:Int}{t:Str}(h:Cd c t):Wr 2 348 [.d (.int c)] [c]:=⟨fun a q=>Za (ns:=5) rfl rfl (Wg h.low ((Yl h.Vl).go a q))⟩
theorem CM:Wr 1 355 [.d (.tup [])] []:=⟨fun a q=>Za (ns:=6) rfl rfl (q _ a)⟩
theorem KD{a:Int}(h:Zx a):Wr 2 355 [.d (.tup [.int a])] (free a 0):=⟨fun g q=>Za (ns:=6) rfl rfl ((Yc h).go g q)⟩
theorem Gx:Wr 2 362 [.d (.str "none"),.d (.tup [])] []:=⟨fun {r _ _ _ _ _ _} a q=>Za (ns:=6) rfl rfl (Zn (by kernel_rfl) (Zn (by kernel_rfl) (Zn (by kernel_rfl) (Zn (by kernel_rfl) (Zn (by kernel_rfl) (CM.go (r:=r) a fun s h=>Zn (by kernel_rfl) (Zn (by kernel_rfl) (q s h))))))))⟩
theorem sW{i:Zm}(hi:i.Ok):Wr 3 362 [.d (.str i.dW),.d (.tup i.imm)] (i.Ek 0):=by
 cases i with
 |add=>exact⟨fun a q=>Gx.go a q⟩
 |Dx x=>exact⟨fun {r _ _ _ _ _ _} a q=>Za (ns:=6) rfl rfl (Zn (by kernel_rfl) (Wg (by kernel_rfl) ((CL hi.wide (WH (Aa3 hi) (by decide)).hi).go (r:=r+1) a q)))⟩
 |Cu x=>exact⟨fun {r _ _ _ _ _ _} a q=>Za (ns:=6) rfl rfl (Zn (by kernel_rfl) (Wg (by kernel_rfl) ((CL hi (WH (OW hi) (by decide)).hi).go (r:=r+1) a q)))⟩
 |glob x=>exact⟨fun {r _ _ _ _ _ _} a q=>Za (ns:=6) rfl rfl (Zn (by kernel_rfl) (Zn (by kernel_rfl) (Zn (by kernel_rfl) (Zn (by kernel_rfl) (Zn (by kernel_rfl) ((KD hi).go (r:=r) a fun s h=>Zn (by kernel_rfl) (Zn (by kernel_rfl) (q s h))))))))⟩
 |fn x=>exact⟨fun {r _ _ _ _ _ _} a q=>Za (ns:=6) rfl rfl (Zn (by kernel_rfl) (Zn (by kernel_rfl) (Zn (by kernel_rfl) (Zn (by kernel_rfl) (Zn (by kernel_rfl) ((KD hi).go (r:=r) a fun s h=>Zn (by kernel_rfl) (Zn (by kernel_rfl) (q s h))))))))⟩
 |null x=>exact⟨fun {r _ _ _ _ _ _} a q=>Za (ns:=6) rfl rfl (Zn (by kernel_rfl) (Zn (by kernel_rfl) (Wg (by kernel_rfl) ((Vn (Rk.kd hi)).go (r:=r) a q))))⟩
theorem CN{i:Zm}(hi:i.Ok):Wr 4 369 [.d i.d] (i.enc 0):=by
 cases i with
 |_=>exact⟨fun {r _ _ _ _ _ _} a q=>Za (ns:=7) rfl rfl (Qa (r:=r+1) (.ins _) ((Gw (.ins _)).go (r:=r+1) a fun s h=>(sW hi).go (r:=r) h q))⟩
theorem sX:Wr 4 369 [.d (i1 11)] [11]:=
 ⟨fun {r _ _ _ _ _ _} a q=>Za (ns:=7) rfl rfl (Qa (r:=r+1) .fin ((Gw .fin).go (r:=r+1) a fun s h=>Gx.go (r:=r+1) h q))⟩
theorem fD{r:Nat}{st:St}{T m:List Int}{d:D}{Q:D→St→Prop}{X:Xp}{N:Ev→St→Prop}:∀{l:List Zm} {s:List Int} {s2:Option S},All Zm.Ok l→WS T s (SK l 0++m)→(∀s s2,WS T s m→N [some (.tag .sink),some (.d d),s2,none,none,none] (st.k s))→
  XV (fun env st k=>wpS (cx (r+4)) (VD (Ye U2)) env st k Q X) [2] (l.map Zm.d++[i1 11]) [some (.tag .sink),some (.d d),s2,none,none,none] (st.k s) N:=fun {l s s2} hl h q=>by
 induction l generalizing s s2 with
 |nil=>exact sX.go h fun s h=>q s _ h
 |cons i l ih=>exact(CN hl.un.a).go h.as fun s1 h1=>ih hl.un.r h1
theorem Vo{l:List Zm}(h:All Zm.Ok l):Wr 5 376 [.d (XG l)] (SK l 0):=⟨fun a q=>Za (ns:=6) rfl rfl (fD h a fun s s2 h=>q s h)⟩
noncomputable def Zm.isFn:Zm→Bool| .fn _=>true|_=>false
noncomputable def Zm.ix:Zm→D| .fn a=> .int a|_=> .none
inductive Lg:Int→List Zm→Prop
 |a {is:List Zm}:Lg (-17) is
 |b {is:List Zm}:is.all Zm.isFn=false→Lg (-16) is
inductive El.Fs:El→Nat→List Nat→Prop
 |f0 {l is:List Zm}:Zz l→dY is→Fs ⟨1,0,some l, -16,is⟩ 0 [2,4,6]
 |f1 {is:List Zm}:dY is→Fs ⟨0,0,none, -16,is⟩ 1 [5]
 |f2 {t:Int} {l is:List Zm}:t≠0→Zx t→Zz l→dY is→Fs ⟨1,t,some l, -16,is⟩ 2 [6]
 |f3 {is:List Zm}:dY is→Fs ⟨2,0,none, -16,is⟩ 3 [7]
 |f4 {l is:List Zm}:Zz l→Sw is→is.all Zm.isFn=false→Fs ⟨1,0,some l, -16,is⟩ 4 [6]
 |f5 {k:Int} {is:List Zm}:Sw is→Lg k is→Fs ⟨0,0,none,k,is⟩ 5 []
 |f6 {t k:Int} {l is:List Zm}:Zx t→Zz l→Sw is→Lg k is→(k= -16→t≠0)→Fs ⟨1,t,some l,k,is⟩ 6 []
 |f7 {k:Int} {is:List Zm}:Sw is→Lg k is→Fs ⟨2,0,none,k,is⟩ 7 []
theorem Lg.rk{k:Int}{is:List Zm}(h:Lg k is):Rk k:=by cases h;exact .b;exact .a
section
variable{r:Nat}{st:St}{T m:List Int}{Q:D→St→Prop}{X:Xp}
theorem fE{i:Zm}(q:Q i.ix st):cN (r+1) 383 [.d (XG [i])] st Q X:=by
 cases i with
 |fn a=>exact Za (ns:=4) rfl rfl (wj ⟨rfl,rfl⟩ q)
 |_=>exact Za (ns:=4) rfl rfl q
theorem G1{d:D}{N:Ev→St→Prop}:∀{ns s:List Int} {s2:Option S},All Zx ns→WS T s (flat ((ns.map Zm.fn).map (El.part 0 0))++m)→(∀s s2,WS T s m→N [some (.tag .sink),some (.d d),s2,none,none,none] (st.k s))→
  XV (fun env st k=>wpS (cx (r+1)) (VD (Ye VI)) env st k Q X) [2] ((ns.map Zm.fn).map Zm.ix) [some (.tag .sink),some (.d d),s2,none,none,none] (st.k s) N
 |[],s,s2,_,h,q=>q s s2 h
 |n::ns,s,s2,.cons hn hl,h,q=>(Yc hn).go h.as fun s1 h1=>G1 hl h1 q
theorem fJ{ns:List Int}(h:All Zx ns):Wr 2 355 [.d (.list ((ns.map Zm.fn).map Zm.ix))] (flat ((ns.map Zm.fn).map (El.part 0 0))):=⟨fun a q=>Za (ns:=6) rfl rfl (G1 h a fun s s2 h=>q s h)⟩
noncomputable abbrev fH(e ix:D)(bb pl:Bool)(way:Int)(s6:Option S):Ev:=[some (.tag .sink),some (.d e),some (.d ix),some (.d (.bool bb)),some (.d (.bool pl)),some (.d (.int way)),s6,none,none,none]
theorem Gy{n k:Nat}(e:n=k)(h:n≤3):Wr 2 739 [.d (.int n)] (free k 0):=by subst e;exact TR (TP h)
noncomputable def peE:PS:=Z1 8 ZS
noncomputable def peB:PS:=VD (Ye (VD (Ye (Z1 9 ZS))))
theorem fK{e ix:D}{bb pl:Bool}{way:Int}{N:Ev→St→Prop}:∀{is:List Zm} {s:List Int} {s6:Option S},All Zm.Ok is→WS T s (flat (is.map (El.part 4 0))++m)→(∀s s6,WS T s m→N (fH e ix bb pl way s6) (st.k s))→
  XV (fun env st k=>wpS (cx (r+5)) peB env st k Q X) [6] (is.map fun i=>XG [i]) (fH e ix bb pl way s6) (st.k s) N:=fun {is s s6} hl h q=>by
 induction is generalizing s s6 with
 |nil=>exact q s s6 h
 |cons i is ih=>exact(Vo (.cons hl.un.a .nil)).go h.as fun s1 h1=>ih hl.un.r h1
theorem Qi{md t k way:Int}{c ix:D}{pl:Bool}{is:List Zm}{s:List Int}(hi:Sw is)(h:WS T s (YN 4 0 is++m))(q:∀s,WS T s m→Q .none (st.k s)):
  wpS (cx (r+5)) peE (fH (.inst 0 [.int md,.int t,c,.int k,Xw is]) ix true pl way none) (st.k s) (fun _ st=>Q .none st) Q X:=
 (Gy (by rw[aq,aq]) (by rw[aq];exact ao hi.le (by decide))).go (r:=r+3) h.as fun s1 h1=>fK hi.all h1 fun s _ h=>q s h
theorem M4{md t k way:Int}{c:D}{pl:Bool}{ns:List Int}{s:List Int}(hi:ZI 2 Zx ns)(h:WS T s (YN 0 0 (ns.map Zm.fn)++m))(q:∀s,WS T s m→Q .none (st.k s)):
  wpS (cx (r+5)) peE (fH (.inst 0 [.int md,.int t,c,.int k,Xw (ns.map Zm.fn)]) (.list ((ns.map Zm.fn).map Zm.ix)) false pl way none) (st.k s) (fun _ st=>Q .none st) Q X:=
 (Gy (by rw[aq,aq (as:=ns.map Zm.fn)]) (by rw[aq,aq];exact ao hi.le (by decide))).go (r:=r+3) h.as fun s1 h1=>(fJ hi.all).go (r:=r+3) h1 q
theorem CO:∀{ns:List Int},((ns.map Zm.fn).map Zm.ix).all D.Ug=true∧((ns.map Zm.fn).map Zm.ix).any D.isNone=false
 |[]=>⟨rfl,rfl⟩
 |n::ns=>CO (ns:=ns)
theorem IB:∀{is:List Zm},(is.map Zm.ix).all D.Ug=true
 |[]=>rfl
 |i::is=>by cases i<;>exact IB (is:=is)
theorem CP:∀{is:List Zm},is.all Zm.isFn=false→(is.map Zm.ix).any D.isNone=true
 |i::is,h=>by
  cases i with
  |fn a=>exact CP (is:=is) h
  |_=>rfl
theorem KG{b c:Bool}{K:D→Prop}(e:b=c)(h:K (.bool c)):cL (.d (.bool b)) K:=by subst e;exact h
theorem M5{is:List Zm}(hi:is.length≤2):(is.map fun i=>XG [i]).length≤YU:=by rw[aq];exact ao hi (by decide)
theorem W9{ns:List Int}(h:ZI 2 Zx ns):Sw (ns.map Zm.fn):=⟨by rw[aq];exact h.le,h.all.map (g:=Zm.fn) (R:=Zm.Ok) fun _ a=>a⟩
noncomputable abbrev fG(e:D)(ix a b:Option S):Ev:=[some (.tag .sink),some (.d e),ix,a,b,none,none,none,none,none]
theorem TS{md t k:Int}{c:D}{is:List Zm}{s:List Int}(hi:is.length≤2)(q:wpS (cx (r+5)) (Z1 1 ZS) (fG (.inst 0 [.int md,.int t,c,.int k,Xw is]) (some (.d (.list (is.map Zm.ix)))) none none) (st.k s) (fun _ st=>Q .none st) Q X):
  cN (r+6) 388 [.tag .sink,.d (.inst 0 [.int md,.int t,c,.int k,Xw is])] (st.k s) Q X:=
 Za (ns:=10) rfl rfl (Zr (M5 hi) (comp_map (P:=fun _=>True) (f:=fun i=>XG [i]) (g:=Zm.ix) (fun i _ k h=>fE h) (.of fun _ _=>trivial) (ZQ (by exact q))))
theorem KH{md t k:Int}{c:D}{is:List Zm}{s:List Int}(h:Lg k is)(q:wpS (cx (r+5)) (Z1 2 ZS) (fG (.inst 0 [.int md,.int t,c,.int k,Xw is]) (some (.d (.list (is.map Zm.ix)))) (some (.d (.bool true))) none) (st.k s) (fun _ st=>Q .none st) Q X):
  wpS (cx (r+5)) (Z1 1 ZS) (fG (.inst 0 [.int md,.int t,c,.int k,Xw is]) (some (.d (.list (is.map Zm.ix)))) none none) (st.k s) (fun _ st=>Q .none st) Q X:=by
 cases h with
 |a=>exact q
 |b h=>exact Z5 IB (KG (CP h) (by exact q))
theorem Gz{md t:Int}{c:D}{ns:List Int}{s:List Int}(q:wpS (cx (r+5)) (Z1 2 ZS) (fG (.inst 0 [.int md,.int t,c,.int (-16),Xw (ns.map Zm.fn)]) (some (.d (.list ((ns.map Zm.fn).map Zm.ix)))) (some (.d (.bool false))) none) (st.k s) (fun _ st=>Q .none st) Q X):
  wpS (cx (r+5)) (Z1 1 ZS) (fG (.inst 0 [.int md,.int t,c,.int (-16),Xw (ns.map Zm.fn)]) (some (.d (.list ((ns.map Zm.fn).map Zm.ix)))) none none) (st.k s) (fun _ st=>Q .none st) Q X:=
 Z5 IB (KG CO.2 (by exact q))
theorem pe6{k t:Int}{l is:List Zm}{ix:D}{s:List Int}(ht:Zx t)(hl:Zz l)(hk:Rk k)(hi:Sw is)(h:WS T s (El.enc ⟨1,t,some l,k,is⟩ 6 0++m))(q:∀s,WS T s m→Q .none (st.k s)):
  wpS (cx (r+5)) (Z1 3 ZS) (fG (El.in ⟨1,t,some l,k,is⟩) (some (.d ix)) (some (.d (.bool true))) (some (.d (.bool false)))) (st.k s) (fun _ st=>Q .none st) Q X:=
 (Yc (n:=6) (Us (by decide:6<8))).go (r:=r+4) h.as fun s1 h1=>(Yc ht).go (r:=r+4) h1.as fun s2 h2=>(Vo hl.all).go (r:=r) h2.as fun s3 h3=>(Vn hk.kd).go (r:=r+3) h3 fun s4 h4=>Qi hi h4 q
theorem Ad2{t:Int}{l is:List Zm}{ix a:Option S}{K:S→St→Prop}(h:K (.d (.bool false)) st):Xu (cx r) (.cmp .Eq (.attr (.var 1) 6) (.lit (.int (-16)))) (fG (El.in ⟨1,t,some l, -17,is⟩) ix a none) st K X:=h
theorem Ad3{t:Int}{l is:List Zm}{s:List Int}(ht:Zx t)(hl:Zz l)(hi:Sw is)(h:WS T s (El.enc ⟨1,t,some l, -17,is⟩ 6 0++m))(q:∀s,WS T s m→Q .none (st.k s)):
  wpS (cx (r+5)) (Z1 2 ZS) (fG (El.in ⟨1,t,some l, -17,is⟩) (some (.d (.list (is.map Zm.ix)))) (some (.d (.bool true))) none) (st.k s) (fun _ st=>Q .none st) Q X:=
Zu (b:=decide (t=(0:Int))) (fun e=>Ad2 (ZQ (by exact pe6 ht hl .b hi h q))) fun e=>KG e (by exact pe6 ht hl .b hi h q)
theorem Ad4{t:Int}{l is:List Zm}{s:List Int}(h0:t≠0)(ht:Zx t)(hl:Zz l)(hi:Sw is)(h:WS T s (El.enc ⟨1,t,some l, -16,is⟩ 6 0++m))(q:∀s,WS T s m→Q .none (st.k s)):
  wpS (cx (r+5)) (Z1 2 ZS) (fG (El.in ⟨1,t,some l, -16,is⟩) (some (.d (.list (is.map Zm.ix)))) (some (.d (.bool true))) none) (st.k s) (fun _ st=>Q .none st) Q X:=
 Zn (b:=decide (t=(0:Int))) (decide_eq_false h0) (KG (decide_eq_false h0) (by exact pe6 ht hl .a hi h q))
theorem fL{x:El}{f:Nat}{fs:List Nat}(hx:x.Fs f fs):Wr 6 388 [.d x.in] (x.enc f 0):=by
 constructor
 intro r st T s m Q X h q
 cases hx with
 |f0 hl hi=>cases hi with|mk hi=>exact TS (W9 hi).le (Gz ((Yc (n:=0) (Us (by decide:0<8))).go (r:=r+4) h.as fun s1 h1=>(Vo hl.all).go (r:=r) h1.as fun s2 h2=>M4 hi h2 q))
 |f1 hi=>cases hi with|mk hi=>exact TS (W9 hi).le (Gz ((Yc (n:=1) (Us (by decide:1<8))).go (r:=r+4) h.as fun s1 h1=>(Yl rfl).go (r:=r+4) h1 fun s2 h2=>M4 hi h2 q))
 |f2 h0 ht hl hi=>cases hi with|mk hi=>exact TS (W9 hi).le (Gz (Zn (decide_eq_false h0) (KG (decide_eq_false h0) ((Yc (n:=2) (Us (by decide:2<8))).go (r:=r+4) h.as fun s1 h1=>(Yc ht).go (r:=r+4) h1.as fun s2 h2=>(Vo hl.all).go (r:=r) h2.as fun s3 h3=>(Yl rfl).go (r:=r+4) h3 fun s4 h4=>M4 hi h4 q))))
 |f3 hi=>cases hi with|mk hi=>exact TS (W9 hi).le (Gz ((Yc (n:=3) (Us (by decide:3<8))).go (r:=r+4) h.as fun s1 h1=>(Yl rfl).go (r:=r+4) h1 fun s2 h2=>M4 hi h2 q))
 |f4 hl hi hn=>exact TS hi.le (KH (.b hn) ((Yc (n:=4) (Us (by decide:4<8))).go (r:=r+4) h.as fun s1 h1=>(Vo hl.all).go (r:=r) h1.as fun s2 h2=>Qi hi h2 q))
 |f5 hi hk=>exact TS hi.le (KH hk ((Yc (n:=5) (Us (by decide:5<8))).go (r:=r+4) h.as fun s1 h1=>(Vn hk.rk.kd).go (r:=r+3) h1 fun s2 h2=>Qi hi h2 q))
 |f7 hi hk=>exact TS hi.le (KH hk ((Yc (n:=7) (Us (by decide:7<8))).go (r:=r+4) h.as fun s1 h1=>(Vn hk.rk.kd).go (r:=r+3) h1 fun s2 h2=>Qi hi h2 q))
 |f6 ht hl hi hk h0=>
  cases hk with
  |a=>exact TS hi.le (KH .a (Ad3 ht hl hi h q))
  |b hn=>exact TS hi.le (KH (.b hn) (Ad4 (h0 rfl) ht hl hi h q))
end
theorem fM{x:Dt}{f:Nat}{fs:List Nat}(hx:x.Fs f fs):Wr 6 395 [.d x.in] (x.enc f 0):=by
 constructor
 intro r st T s m Q X h q
 cases hx with
 |cM hb=>exact Za (ns:=5) rfl rfl ((Yc (n:=1) (Us (by decide:1<8))).go (r:=r+4) h.as fun s1 h1=>(TR (TP hb.le)).go (r:=r+3) h1.as fun s2 h2=>M0.go (r:=r+4) h2 q)
 |low hl hb=>exact Za (ns:=5) rfl rfl ((Yc (n:=0) (Us (by decide:0<8))).go (r:=r+4) h.as fun s1 h1=>(Vo hl.all).go (r:=r) h1.as fun s2 h2=>(TR (TP hb.le)).go (r:=r+3) h2.as fun s3 h3=>M0.go (r:=r+4) h3 q)
 |act h0 hm hl hb=>exact Za (ns:=5) rfl rfl (Zn (decide_eq_false h0) ((Yc (n:=2) (Us (by decide:2<8))).go (r:=r+4) h.as fun s1 h1=>(Yc hm).go (r:=r+4) h1.as fun s2 h2=>(Vo hl.all).go (r:=r) h2.as fun s3 h3=>(TR (TP hb.le)).go (r:=r+3) h3.as fun s4 h4=>M0.go (r:=r+4) h4 q))
inductive Th.Fs:Th→Nat→List Nat→Prop
 |elem {x:El} {f:Nat} {fs:List Nat}:x.Fs f fs→Fs (.elem x) f fs
 |data {x:Dt} {f:Nat} {fs:List Nat}:x.Fs f fs→Fs (.data x) f fs
 |rest {t:Th}:t.Ok→2≤t.sort→Fs t 0 []
theorem sY{t:Th}{f:Nat}{fs:List Nat}(ht:t.Fs f fs):Wr 7 943 [.d t.d,.d (.int t.sort)] (t.enc f 0):=by
 constructor
 intro r st T s m Q X h q
 cases ht with
 |elem hx=>exact Za (ns:=6) rfl rfl ((fL hx).go (r:=r) h q)
 |data hx=>exact Za (ns:=6) rfl rfl ((fM hx).go (r:=r) h q)
 |rest ht hs=>cases ht with
  |elem _=>exact absurd hs (by show ¬2≤0;decide)
  |data _=>exact absurd hs (by show ¬2≤1;decide)
  |imp hx=>exact Za (ns:=6) rfl rfl ((Eu hx).go (r:=r+2) h q)
  |typ ha hb=>exact Za (ns:=6) rfl rfl ((fC ha hb).go (r:=r+2) h q)
  |tab ha hb hc=>exact Za (ns:=6) rfl rfl ((K9 ha hb hc).go (r:=r+3) h q)
  |mem ha hb=>exact Za (ns:=6) rfl rfl ((Nh ha hb).go (r:=r+3) h q)
  |glob ha hb=>exact Za (ns:=6) rfl rfl ((Ni ha hb).go (r:=r+3) h q)
  |exp hi=>exact Za (ns:=6) rfl rfl ((Ew hi).go (r:=r+3) h q)
noncomputable def elB:PS:=VD (Ye (Z1 3 Xm))
noncomputable def elA:PS:=VD (Ye (Z1 2 elB))
noncomputable def Ad7:PE→PE
 | .bin _ _ b=>b
 |e=>e
noncomputable abbrev fN(x:D)(pad:Nat)(md t:Int)(off:D)(k:Int)(is:List Zm)(L W:List D)(s9 Xb Vc XX:Option S):Ev:=[some (.d x),some (.d (.int pad)),some (.d (.int md)),some (.d (.int t)),some (.d off),some (.d (.int k)),some (.d (Xw is)),some (.d (.list L)),some (.own W),s9,Xb,Vc,XX,none,none,none]
def elQ(C:Cx)(E:Ev)(N:Ev→St→Prop)(R:D→St→Prop)(X:Xp):D→St→Prop:=fun v st=>Xu C (Ad7 (sL (Ye elA))) E st (fun y st=>Ea .Add (.d v) y fun u=>cL (.d u) fun d=>wpS C (Z1 1 elA) (E.set 11 (some (.d d))) st N R X) X
theorem AaC{f:Nat}{b:Bool}(h:jd f 4=b):decide ((f:Int)<4)=b:=by
 cases b with
 |true=>exact decide_eq_true (by have:=cw h;omega)
 |false=>exact decide_eq_false (by have:=Nat.not_le_of_not_ble_eq_true (fun q=>nomatch (h.symm.trans q:false=true));omega)
theorem CS{i:Zm}(h:i.Ok):Zz [i]:=⟨by show 1≤3;decide,.cons h .nil⟩
theorem Parts.fns{f pad:Nat}{ns:List Int}(hf:jd f 4=true)(h:ns.length≤2):Parts ((ns.map Zm.fn).map (El.part f pad)):=
 ⟨by rw[aq,aq];exact ao h (by decide),(All.of (l:=ns.map Zm.fn) (P:=fun _=>True) fun _ _=>trivial).map fun i _=>by unfold El.part;rw[hf];exact Zf.mono (by decide)⟩
theorem Parts.CR{f pad:Nat}{is:List Zm}(hf:jd f 4=false)(h:Sw is):Parts (is.map (El.part f pad)):=
 ⟨by rw[aq];exact ao h.le (by decide),h.all.map fun i hi=>by unfold El.part;rw[hf];exact(ZF (CS hi)).mono (by decide)⟩
section
variable{ds:List D}{r:Nat}{st:St}{Q:D→St→Prop}{X:Xp}{pad:Nat}{N:Ev→St→Prop}{R:D→St→Prop}{d0 off:D}{md t k:Int}{is:List Zm}{L W:List D}{s9 Xb Vc XX:Option S}{a b c w:List Int}{n m f:Nat}
theorem sZ{K:D→Prop}(ha:Oc n a)(hb:Oc m b)(hm:n+m≤1000)(q:K (iL (a++b))):Ea .Add (.d (iL a)) (.d (iL b)) K:=X5 ha hb hm (by rw[Vm];exact q)
structure LD(n:Nat)(x:List D):Prop where
 le:x.length≤n
theorem Oc.ld(h:Oc n a):LD n (a.map .int):=⟨by rw[aq];exact h.le⟩
theorem LD.app{x y:List D}(h:LD n x)(g:LD m y):LD (n+m) (x++y):=⟨by rw[b4];exact l8 h.le g.le⟩
theorem LD.lim{x:List D}{K:Prop}(h:LD n x)(hn:n≤1000)(q:K):lim x.length K:=Zr (ao h.le (ao hn (by decide))) q
theorem fO(h:Parts (is.map (El.part f pad)))(q:Q (iL (YN f pad is)) st):cN (r+3) 902 [.d (.list (is.map fun i=>iL (El.part f pad i).1)),.d (.int pad)] st Q X:=by
 have:=Gs (r:=r) (X:=X) (pad:=pad) h q
 rw[ko] at this
 exact this
theorem CQ(hw:Oc n w)(hn:n≤100)(hW:W.length≤7)(h:Parts (is.map (El.part f pad)))(e:w++YN f pad is=c)(q:N (fN d0 pad md t off k is L (W++[iL c]) s9 Xb (some (.d (iL w))) (some (.d (.list (is.map fun i=>iL (El.part f pad i).1))))) st):
  wpS (cx (r+3)) (Z1 4 elA) (fN d0 pad md t off k is L W s9 Xb (some (.d (iL w))) (some (.d (.list (is.map fun i=>iL (El.part f pad i).1))))) st N R X:=by
 subst e
 exact fO (r:=r) h (sZ hw h.oc (ao (jm hn 165) (by decide)) (Zr (ao (cj hW) (by decide)) q))
theorem M6{ns:List Int}(hf:jd f 4=true)(hi:ZI 2 Zx ns)(ed:ds=w.map .int)(hw:Oc n w)(hn:n≤100)(hW:W.length≤7)(e:w++YN f pad (ns.map Zm.fn)=c)
  (q:∀XX,N (fN d0 pad md t off k (ns.map Zm.fn) L (W++[iL c]) (some (.d (.int f))) Xb (some (.d (iL w))) XX) st):wpS (cx (r+3)) (Z1 3 elA) (fN d0 pad md t off k (ns.map Zm.fn) L W (some (.d (.int f))) Xb (some (.d (.list ds))) XX) st N R X:=by
 subst ed
 refine Zr (M5 (is:=ns.map Zm.fn) (W9 hi).le) (comp_map (P:=fun i=>∃a,Zx a∧i= .fn a) (f:=fun i=>XG [i]) (g:=fun i=>iL (El.part f pad i).1) (fun i h K hK=> ?_) (hi.all.map (g:=Zm.fn) fun a h=>⟨a,h,rfl⟩) (ZQ (by exact CQ hw hn hW (Parts.fns hf hi.le) e (q _))))
 obtain⟨a,ha,rfl⟩:=h
 unfold El.part at hK
 rw[hf] at hK
 refine Wg (b:=decide ((f:Int)<4)) (AaC hf) ?_
 exact Z9 (r:=r) (X:=To) ha hK
theorem Qj(hf:jd f 4=false)(hi:Sw is)(ed:ds=w.map .int)(hw:Oc n w)(hn:n≤100)(hW:W.length≤7)(e:w++YN f pad is=c)
  (q:∀XX,N (fN d0 pad md t off k is L (W++[iL c]) (some (.d (.int f))) Xb (some (.d (iL w))) XX) st):wpS (cx (r+3)) (Z1 3 elA) (fN d0 pad md t off k is L W (some (.d (.int f))) Xb (some (.d (.list ds))) XX) st N R X:=by
 subst ed
 refine Zr (M5 hi.le) (comp_map (P:=Zm.Ok) (f:=fun i=>XG [i]) (g:=fun i=>iL (El.part f pad i).1) (fun i h K hK=> ?_) hi.all (ZQ (by exact CQ hw hn hW (Parts.CR hf hi) e (q _))))
 unfold El.part at hK
 rw[hf] at hK
 refine Zn (b:=decide ((f:Int)<4)) (AaC hf) ?_
 exact WI (r:=r) (X:=To) (CS h) hK
end
section
variable{r:Nat}{st:St}{Q:D→St→Prop}{X:Xp}{pad:Nat}{N:Ev→St→Prop}{R:D→St→Prop}{d0:D}{t k:Int}{l is:List Zm}{ns:List Int}{L W:List D}{Vc XX:Option S}
noncomputable abbrev elP(x:El)(d0:D)(pad:Nat)(L W:List D)(f:Int)(Xb Vc XX:Option S):Ev:=fN d0 pad x.mode x.t (Ku x.c) x.k x.Yg L W (some (.d (.int f))) Xb Vc XX
structure CT(r:Nat)(x:El)(f pad:Nat):Prop where
 go:∀{st:St} {X:Xp} {N:Ev→St→Prop} {R:D→St→Prop} {d0:D} {L W:List D} {Xb Vc XX:Option S},W.length≤7→(∀Vc XX,N (elP x d0 pad L (W++[iL (x.enc f pad)]) f Xb Vc XX) st)→cN (r+2) 888 [.d (.int f),.d (.int pad)] st (elQ (cx (r+3)) (elP x d0 pad L W f Xb Vc XX) N R X) X
theorem M7{a:Int}(h:By a):Oc 1 [a]:= .one h (Oc.nil (n:=0))
theorem el0(hl:Zz l)(hi:ZI 2 Zx ns):CT r ⟨1,0,some l, -16,ns.map Zm.fn⟩ 0 pad:=⟨fun hW q=>
 Z9 (n:=0) (Us (by decide:0<8)) (LD.lim (Zf.ld.app (Oc.ld (Oc.nil (n:=0)))) (by decide) (WI hl (LD.lim ((Zf.ld.app (Oc.ld (Oc.nil (n:=0)))).app (Oc.ld (ZF hl))) (by decide) (ZQ (by exact M6 (f:=0) rfl hi (by rw[bf,bf];rfl) ((Zf.app (Oc.nil (n:=0))).app (ZF hl)) (by decide) hW (by rw[bw,b8];rfl) (q _))))))⟩
theorem el1(hi:ZI 2 Zx ns):CT r ⟨0,0,none, -16,ns.map Zm.fn⟩ 1 pad:=⟨fun hW q=>
 Z9 (n:=1) (Us (by decide:1<8)) (LD.lim (Zf.ld.app (Oc.ld (Oc.nil (n:=0)))) (by decide) (LD.lim ((Zf.ld.app (Oc.ld (Oc.nil (n:=0)))).app (Oc.ld (M7 (a:=0) rfl))) (by decide) (ZQ (by exact M6 (f:=1) rfl hi (by rw[bf,bf];rfl) ((Zf.app (Oc.nil (n:=0))).app (M7 (a:=0) rfl)) (by decide) hW (by rw[bw,b8];rfl) (q _)))))⟩
theorem el2(ht:Zx t)(hl:Zz l)(hi:ZI 2 Zx ns):CT r ⟨1,t,some l, -16,ns.map Zm.fn⟩ 2 pad:=⟨fun {_ X _ _ _ _ _ _ _ _} hW q=>
 Z9 (n:=2) (Us (by decide:2<8)) (Z9 (r:=r) (X:=X) ht (LD.lim (Zf.ld.app (Oc.ld Zf)) (by decide) (WI hl (LD.lim ((Zf.ld.app (Oc.ld Zf)).app (Oc.ld (ZF hl))) (by decide) (LD.lim (((Zf.ld.app (Oc.ld Zf)).app (Oc.ld (ZF hl))).app (Oc.ld (M7 (a:=0) rfl))) (by decide) (ZQ (by exact M6 (f:=2) rfl hi (by rw[bf,bf,bf];rfl) (((Zf.app Zf).app (ZF hl)).app (M7 (a:=0) rfl)) (by decide) hW (by rw[b8,b8,b8];rfl) (q _))))))))⟩
theorem el3(hi:ZI 2 Zx ns):CT r ⟨2,0,none, -16,ns.map Zm.fn⟩ 3 pad:=⟨fun hW q=>
 Z9 (n:=3) (Us (by decide:3<8)) (LD.lim (Zf.ld.app (Oc.ld (Oc.nil (n:=0)))) (by decide) (LD.lim ((Zf.ld.app (Oc.ld (Oc.nil (n:=0)))).app (Oc.ld (M7 (a:=0) rfl))) (by decide) (ZQ (by exact M6 (f:=3) rfl hi (by rw[bf,bf];rfl) ((Zf.app (Oc.nil (n:=0))).app (M7 (a:=0) rfl)) (by decide) hW (by rw[bw,b8];rfl) (q _)))))⟩
theorem el4(hl:Zz l)(hi:Sw is):CT r ⟨1,0,some l, -16,is⟩ 4 pad:=⟨fun hW q=>
 Z9 (n:=4) (Us (by decide:4<8)) (LD.lim (Zf.ld.app (Oc.ld (Oc.nil (n:=0)))) (by decide) (WI hl (LD.lim ((Zf.ld.app (Oc.ld (Oc.nil (n:=0)))).app (Oc.ld (ZF hl))) (by decide) (ZQ (by exact Qj (f:=4) rfl hi (by rw[bf,bf];rfl) ((Zf.app (Oc.nil (n:=0))).app (ZF hl)) (by decide) hW (by rw[bw,b8];rfl) (q _))))))⟩
theorem el5(hk:Rk k)(hi:Sw is):CT r ⟨0,0,none,k,is⟩ 5 pad:=⟨fun hW q=>
 Z9 (n:=5) (Us (by decide:5<8)) (LD.lim (Zf.ld.app (Oc.ld (Oc.nil (n:=0)))) (by decide) (LD.lim ((Zf.ld.app (Oc.ld (Oc.nil (n:=0)))).app (Oc.ld (M7 hk.Vl))) (by decide) (ZQ (by exact Qj (f:=5) rfl hi (by rw[bf,bf];rfl) ((Zf.app (Oc.nil (n:=0))).app (M7 hk.Vl)) (by decide) hW (by rw[bw,b8];rfl) (q _)))))⟩
theorem mC(ht:Zx t)(hl:Zz l)(hk:Rk k)(hi:Sw is):CT r ⟨1,t,some l,k,is⟩ 6 pad:=⟨fun {_ X _ _ _ _ _ _ _ _} hW q=>
 Z9 (n:=6) (Us (by decide:6<8)) (Z9 (r:=r) (X:=X) ht (LD.lim (Zf.ld.app (Oc.ld Zf)) (by decide) (WI hl (LD.lim ((Zf.ld.app (Oc.ld Zf)).app (Oc.ld (ZF hl))) (by decide) (LD.lim (((Zf.ld.app (Oc.ld Zf)).app (Oc.ld (ZF hl))).app (Oc.ld (M7 hk.Vl))) (by decide) (ZQ (by exact Qj (f:=6) rfl hi (by rw[bf,bf,bf];rfl) (((Zf.app Zf).app (ZF hl)).app (M7 hk.Vl)) (by decide) hW (by rw[b8,b8,b8];rfl) (q _))))))))⟩
theorem el7(hk:Rk k)(hi:Sw is):CT r ⟨2,0,none,k,is⟩ 7 pad:=⟨fun hW q=>
 Z9 (n:=7) (Us (by decide:7<8)) (LD.lim (Zf.ld.app (Oc.ld (Oc.nil (n:=0)))) (by decide) (LD.lim ((Zf.ld.app (Oc.ld (Oc.nil (n:=0)))).app (Oc.ld (M7 hk.Vl))) (by decide) (ZQ (by exact Qj (f:=7) rfl hi (by rw[bf,bf];rfl) ((Zf.app (Oc.nil (n:=0))).app (M7 hk.Vl)) (by decide) hW (by rw[bw,b8];rfl) (q _)))))⟩
end
noncomputable def TT:List Zm→List D
 |[]=>[]
 |i::is=>match i.isFn with|true=>TT is|false=>XG [i]::TT is
inductive Spl:List Zm→List D→Prop
 |fns {ns:List Int}:ZI 2 Zx ns→Spl (ns.map Zm.fn) []
 |mix {is:List Zm} {d:D} {L:List D}:Sw is→is.all Zm.isFn=false→Spl is (d::L)
theorem G2:∀{is:List Zm},All Zm.Ok is→is.all Zm.isFn=true→∃ns,is=ns.map Zm.fn∧All Zx ns∧TT is=[]
 |[],_,_=>⟨[],rfl,.nil,rfl⟩
 |i::is,.cons hi hl,h=>by
  cases i with
  |fn a=>
   obtain⟨ns,e,h1,h2⟩:=G2 (is:=is) hl h
   exact⟨a::ns,congrArg (Zm.fn a:: ·) e,.cons hi h1,h2⟩
  |_=>exact nomatch h
theorem G3:∀{is:List Zm},is.all Zm.isFn=false→∃d L,TT is=d::L
 |i::is,h=>by
  cases i with
  |fn a=>exact G3 (is:=is) h
  |_=>exact⟨_,_,rfl⟩
theorem spl{is:List Zm}(h:Sw is):Spl is (TT is):=by
 cases e:is.all Zm.isFn with
 |true=>
  obtain⟨ns,e1,h1,h2⟩:=G2 h.all e
  subst e1
  rw[h2]
  exact .fns ⟨by have:=h.le;rwa [aq] at this,h1⟩
 |false=>
  obtain⟨d,L,e1⟩:=G3 e
  rw[e1]
  exact .mix h e
section
variable{r:Nat}{st:St}{Q:D→St→Prop}{X:Xp}{pad:Nat}{t k:Int}{l is:List Zm}{ns:List Int}{L:List D}{d:D}
theorem IC{body:Ev→St→(Option D→St→Prop)→Prop}{env:Ev}{Q:List D→St→Prop}(h:∀i k,k (match Zm.isFn i with|true=>none|false=>some (XG [i])) st→body (env.set 13 (some (.d (XG [i])))) st k):∀{is:List Zm} {acc:List D},Q (acc++TT is) st→Wf body [13] (is.map fun i=>XG [i]) env st acc Q
 |[],acc,q=>(bw acc)▸q
 |i::is,acc,q=>h i _ (by
  cases e:i.isFn with
  |true=>exact IC h (by unfold TT at q;rw[e] at q;exact q)
  |false=>exact IC h (by unfold TT at q;rw[e] at q;rw[b8];exact q))
abbrev tH(r:Nat)(x:El)(pad:Nat)(L:List D)(Q:D→St→Prop)(X:Xp)(st:St):Prop:=
 XV (fun env st k=>wpS (cx (r+3)) elB env st k Q X) [9] (YO 8) (fN x.d pad x.mode x.t (Ku x.c) x.k x.Yg L [] none none none none) st fun env st=>wpS (cx (r+3)) (Z1 4 Xm) env st (fun _ st=>Q .none st) Q X
theorem CU{x:El}(hi:x.Yg.length≤2)(q:tH r x pad (TT x.Yg) Q X st):cN (r+4) 919 [.d x.d,.d (.int pad)] st Q X:=
 Za (ns:=16) rfl rfl (Zr (M5 hi) (IC (fun i k h=>by cases i<;>exact h) (ZQ (by exact q))))
noncomputable def mf(f:Nat):Int:=([1,0,1,2]:List Int).getD (f%4) 0
noncomputable def KI(x:El)(L:List D)(f:Nat):Bool:=decide (mf f=x.mode)&&((qp (f%4) 2||decide (x.t=0))&&(!(nj f 4&& !decide (x.k= -16))&& !(jd f 4&& !L.isEmpty)))
theorem Ut{a b c d:Bool}(h1:a=true)(h2:b=true)(h3:c=false)(h4:d=false):(a&&(b&&(!c&& !d)))=true:=by rw[h1,h2,h3,h4];rfl
theorem KJ{a b:Bool}(h:a=false):(a&&b)=false:=by rw[h];rfl
theorem IE{a b c:Bool}(h:b=false):(a&&(b&&c))=false:=by rw[h];cases a<;>rfl
theorem O6{a b c d:Bool}(h:c=true):(a&&(b&&(!c&&d)))=false:=by rw[h];cases a<;>cases b<;>rfl
theorem KL{a b c d:Bool}(h:d=true):(a&&(b&&(c&& !d)))=false:=by rw[h];cases a<;>cases b<;>cases c<;>rfl
noncomputable abbrev elX(x:El)(d0:D)(pad:Nat)(L W:List D)(s9 Xb Vc XX:Option S):Ev:=fN d0 pad x.mode x.t (Ku x.c) x.k x.Yg L W s9 Xb Vc XX
section
variable{x:El}{f:Nat}{d0:D}{W xs:List D}{s9 Xb Vc XX:Option S}{N:Ev→St→Prop}{R:D→St→Prop}
abbrev elG(r:Nat)(x:El)(pad:Nat)(d0:D)(L:List D)(R:D→St→Prop)(X:Xp)(N:Ev→St→Prop)(xs W:List D)(s9 Xb Vc XX:Option S)(st:St):Prop:=XV (fun env st k=>wpS (cx (r+3)) elB env st k R X) [9] xs (elX x d0 pad L W s9 Xb Vc XX) st N
structure fP(r:Nat)(x:El)(pad f:Nat):Prop where
 go:∀{st:St} {X:Xp} {N:Ev→St→Prop} {R:D→St→Prop} {d0:D} {L W xs:List D} {s9 Xb Vc XX:Option S},W.length≤7→(KI x L f=true→CT r x f pad)→(KI x L f=false→∀Xb Vc XX,elG r x pad d0 L R X N xs W (some (.d (.int f))) Xb Vc XX st)→
  (KI x L f=true→∀Xb Vc XX,elG r x pad d0 L R X N xs (W++[iL (x.enc f pad)]) (some (.d (.int f))) Xb Vc XX st)→elG r x pad d0 L R X N (.int f::xs) W s9 Xb Vc XX st
theorem AdC:fP r x pad 0:=⟨fun {st X N R d0 L W xs s9 Xb Vc XX} hW y qn qy=>Zu (b:=decide ((1:Int)=x.mode)) (fun e1=>Zu (b:= !decide (x.k= -16)) (fun e3=>qn (O6 e3) _ _ _) fun e3=>Zu (b:= !L.isEmpty) (fun e4=>qn (KL e4) _ _ _) fun e4=>Zu (b:=decide (x.t=0)) (fun e2=>(y (Ut e1 e2 e3 e4)).go hW (qy (Ut e1 e2 e3 e4) _)) fun e2=>qn (IE e2) _ _ _) fun e1=>Zu (b:= !decide (x.k= -16)) (fun e3=>qn (O6 e3) _ _ _) fun e3=>Zu (b:= !L.isEmpty) (fun e4=>qn (KL e4) _ _ _) fun e4=>Zn (b:=decide ((1:Int)=x.mode)) e1 (qn (KJ e1) _ _ _)⟩
theorem AdB:fP r x pad 1:=⟨fun {st X N R d0 L W xs s9 Xb Vc XX} hW y qn qy=>Zu (b:=decide ((0:Int)=x.mode)) (fun e1=>Zu (b:= !decide (x.k= -16)) (fun e3=>qn (O6 e3) _ _ _) fun e3=>Zu (b:= !L.isEmpty) (fun e4=>qn (KL e4) _ _ _) fun e4=>Zu (b:=decide (x.t=0)) (fun e2=>(y (Ut e1 e2 e3 e4)).go hW (qy (Ut e1 e2 e3 e4) _)) fun e2=>qn (IE e2) _ _ _) fun e1=>Zu (b:= !decide (x.k= -16)) (fun e3=>qn (O6 e3) _ _ _) fun e3=>Zu (b:= !L.isEmpty) (fun e4=>qn (KL e4) _ _ _) fun e4=>Zn (b:=decide ((0:Int)=x.mode)) e1 (qn (KJ e1) _ _ _)⟩
theorem AdG:fP r x pad 2:=⟨fun {st X N R d0 L W xs s9 Xb Vc XX} hW y qn qy=>Zu (b:=decide ((1:Int)=x.mode)) (fun e1=>Zu (b:= !decide (x.k= -16)) (fun e3=>qn (O6 e3) _ _ _) fun e3=>Zu (b:= !L.isEmpty) (fun e4=>qn (KL e4) _ _ _) fun e4=>(y (Ut e1 rfl e3 e4)).go hW (qy (Ut e1 rfl e3 e4) _)) fun e1=>Zu (b:= !decide (x.k= -16)) (fun e3=>qn (O6 e3) _ _ _) fun e3=>Zu (b:= !L.isEmpty) (fun e4=>qn (KL e4) _ _ _) fun e4=>Zn (b:=decide ((1:Int)=x.mode)) e1 (qn (KJ e1) _ _ _)⟩
theorem AdA:fP r x pad 3:=⟨fun {st X N R d0 L W xs s9 Xb Vc XX} hW y qn qy=>Zu (b:=decide ((2:Int)=x.mode)) (fun e1=>Zu (b:= !decide (x.k= -16)) (fun e3=>qn (O6 e3) _ _ _) fun e3=>Zu (b:= !L.isEmpty) (fun e4=>qn (KL e4) _ _ _) fun e4=>Zu (b:=decide (x.t=0)) (fun e2=>(y (Ut e1 e2 e3 e4)).go hW (qy (Ut e1 e2 e3 e4) _)) fun e2=>qn (IE e2) _ _ _) fun e1=>Zu (b:= !decide (x.k= -16)) (fun e3=>qn (O6 e3) _ _ _) fun e3=>Zu (b:= !L.isEmpty) (fun e4=>qn (KL e4) _ _ _) fun e4=>Zn (b:=decide ((2:Int)=x.mode)) e1 (qn (KJ e1) _ _ _)⟩
theorem AdD:fP r x pad 4:=⟨fun {st X N R d0 L W xs s9 Xb Vc XX} hW y qn qy=>Zu (b:=decide ((1:Int)=x.mode)) (fun e1=>Zu (b:= !decide (x.k= -16)) (fun e3=>qn (O6 e3) _ _ _) fun e3=>Zu (b:=decide (x.t=0)) (fun e2=>(y (Ut e1 e2 e3 rfl)).go hW (qy (Ut e1 e2 e3 rfl) _)) fun e2=>qn (IE e2) _ _ _) fun e1=>Zu (b:= !decide (x.k= -16)) (fun e3=>qn (O6 e3) _ _ _) fun e3=>Zn (b:=decide ((1:Int)=x.mode)) e1 (qn (KJ e1) _ _ _)⟩
theorem AdH:fP r x pad 5:=⟨fun {st X N R d0 L W xs s9 Xb Vc XX} hW y qn qy=>Zu (b:=decide ((0:Int)=x.mode)) (fun e1=>Zu (b:=decide (x.t=0)) (fun e2=>(y (Ut e1 e2 rfl rfl)).go hW (qy (Ut e1 e2 rfl rfl) _)) fun e2=>qn (IE e2) _ _ _) fun e1=>Zn (b:=decide ((0:Int)=x.mode)) e1 (qn (KJ e1) _ _ _)⟩
theorem AdE:fP r x pad 6:=⟨fun {st X N R d0 L W xs s9 Xb Vc XX} hW y qn qy=>Zu (b:=decide ((1:Int)=x.mode)) (fun e1=>(y (Ut e1 rfl rfl rfl)).go hW (qy (Ut e1 rfl rfl rfl) _)) fun e1=>Zn (b:=decide ((1:Int)=x.mode)) e1 (qn (KJ e1) _ _ _)⟩
theorem AdF:fP r x pad 7:=⟨fun {st X N R d0 L W xs s9 Xb Vc XX} hW y qn qy=>Zu (b:=decide ((2:Int)=x.mode)) (fun e1=>Zu (b:=decide (x.t=0)) (fun e2=>(y (Ut e1 e2 rfl rfl)).go hW (qy (Ut e1 e2 rfl rfl) _)) fun e2=>qn (IE e2) _ _ _) fun e1=>Zn (b:=decide ((2:Int)=x.mode)) e1 (qn (KJ e1) _ _ _)⟩
end
end
theorem All.mem{α:Type}{P:α→Prop}{a:α}:∀{l:List α},All P l→a∈l→P a:=fun {l} h m=>by
 induction l with
 |nil=>exact(List.not_mem_nil m).elim
 |cons x l ih=>exact(ay.mp m).elim (fun e=>e▸h.un.a) (ih h.un.r)
section
variable{r:Nat}{st:St}{Q:D→St→Prop}{X:Xp}{pad:Nat}{t k:Int}{l is:List Zm}{ns:List Int}{L:List D}{d:D}{x:El}{gs:List Nat}
theorem AdI:∀f,f<8→fP r x pad f:=each ⟨AdF,AdE,AdH,AdD,AdA,AdG,AdB,AdC,trivial⟩
noncomputable abbrev G4(x:El)(pad:Nat)(fs:List Nat):List D:=fs.map fun g=>iL (x.enc g pad)
theorem fQ{d0:D}{R:D→St→Prop}{N:Ev→St→Prop}(hE:∀f,KI x L f=true→f<8→CT r x f pad):∀{fs:List Nat} {W:List D} {s9 Xb Vc XX:Option S},All (· <8) fs→W.length+fs.length≤8→(∀s9 Xb Vc XX,N (elX x d0 pad L (W++G4 x pad (fs.filter (KI x L))) s9 Xb Vc XX) st)→
  elG r x pad d0 L R X N (fs.map fun k:Nat=> .int k) W s9 Xb Vc XX st:=fun {fs W s9 Xb Vc XX} hfs hW q=>by
 induction fs generalizing W s9 Xb Vc XX with
 |nil=>rw[List.filter_nil,show G4 x pad []=[] from rfl,bw] at q;exact q _ _ _ _
 |cons f fs ih=>
  have hf:=hfs.un.a
  refine(AdI f hf).go (by have:=I8 hW;omega) (fun h=>hE f h hf) (fun h Xb Vc XX=>ih hfs.un.r (Nat.le_of_succ_le hW) ?_) fun h Xb Vc XX=>ih hfs.un.r (I7 hW) ?_
  ·rw[List.filter_cons_of_neg (by rw[h];decide)] at q;exact q
  ·rw[List.filter_cons_of_pos h] at q;rw[b8];exact q
theorem ZW(hi:x.Yg.length≤2)(hL:TT x.Yg=L)(hb:∀f,f<8→KI x L f=gs.elem f)(hE:All (fun f=>CT r x f pad) gs)(hg:(fu 8).filter (fun f=>gs.elem f)=gs)(q:Q (.list (G4 x pad gs)) st):cN (r+4) 919 [.d x.d,.d (.int pad)] st Q X:=by
 subst hL
 have e:(fu 8).filter (KI x (TT x.Yg))=gs:=(List.filter_congr fun f hf=>hb f (l5.mp hf)).trans hg
 refine CU hi (fQ (W:=[]) (fun f h hf=>hE.mem (List.elem_iff.mp ((hb f hf).symm.trans h))) (.of fun f hf=>l5.mp hf) (by decide) fun s9 Xb Vc XX=> ?_)
 rw[e]
 exact q
theorem KM(h0:x.t≠0){f:Nat}(hf:qp (f%4) 2=false):KI x L f=false:=IE (by rw[hf,decide_eq_false h0];rfl)
theorem Ex(hx:x.Ok)(q:∀f fs,x.Fs f fs→Q (.list (G4 x pad (f::fs))) st):cN (r+4) 919 [.d x.d,.d (.int pad)] st Q X:=by
 cases hx with
 |@act t k l is ht hl hk hi=>
  generalize eL:TT is=L
  have s:=eL▸spl hi
  by_cases h0:t=0
  ·subst h0
   cases s with
   |fns hn=>cases hk with
    |a=>exact ZW (gs:=[0,2,4,6]) hi.le eL (each ⟨rfl,rfl,rfl,rfl,rfl,rfl,rfl,rfl,trivial⟩) (.cons (el0 hl hn) (.cons (el2 ht hl hn) (.cons (el4 hl hi) (.cons (mC ht hl .a hi) .nil)))) rfl (q 0 _ (.f0 hl (.mk hn)))
    |b=>exact ZW (gs:=[6]) hi.le eL (each ⟨rfl,rfl,rfl,rfl,rfl,rfl,rfl,rfl,trivial⟩) (.cons (mC ht hl .b hi) .nil) rfl (q 6 _ (.f6 ht hl hi .a (fun h=>nomatch h)))
   |mix _ hm=>cases hk with
    |a=>exact ZW (gs:=[4,6]) hi.le eL (each ⟨rfl,rfl,rfl,rfl,rfl,rfl,rfl,rfl,trivial⟩) (.cons (el4 hl hi) (.cons (mC ht hl .a hi) .nil)) rfl (q 4 _ (.f4 hl hi hm))
    |b=>exact ZW (gs:=[6]) hi.le eL (each ⟨rfl,rfl,rfl,rfl,rfl,rfl,rfl,rfl,trivial⟩) (.cons (mC ht hl .b hi) .nil) rfl (q 6 _ (.f6 ht hl hi .a (fun h=>nomatch h)))
  ·cases s with
   |fns hn=>cases hk with
    |a=>exact ZW (gs:=[2,6]) hi.le eL (each ⟨rfl,rfl,rfl,KM h0 rfl,rfl,rfl,rfl,KM h0 rfl,trivial⟩) (.cons (el2 ht hl hn) (.cons (mC ht hl .a hi) .nil)) rfl (q 2 _ (.f2 h0 ht hl (.mk hn)))
    |b=>exact ZW (gs:=[6]) hi.le eL (each ⟨rfl,rfl,rfl,KM h0 rfl,rfl,rfl,rfl,KM h0 rfl,trivial⟩) (.cons (mC ht hl .b hi) .nil) rfl (q 6 _ (.f6 ht hl hi .a (fun h=>nomatch h)))
   |mix _ hm=>cases hk with
    |a=>exact ZW (gs:=[6]) hi.le eL (each ⟨rfl,rfl,rfl,KM h0 rfl,rfl,rfl,rfl,KM h0 rfl,trivial⟩) (.cons (mC ht hl .a hi) .nil) rfl (q 6 _ (.f6 ht hl hi (.b hm) (fun _=>h0)))
    |b=>exact ZW (gs:=[6]) hi.le eL (each ⟨rfl,rfl,rfl,KM h0 rfl,rfl,rfl,rfl,KM h0 rfl,trivial⟩) (.cons (mC ht hl .b hi) .nil) rfl (q 6 _ (.f6 ht hl hi .a (fun h=>nomatch h)))
 |@cM k is hk hi=>
  generalize eL:TT is=L
  have s:=eL▸spl hi
  cases s with
  |fns hn=>cases hk with
   |a=>exact ZW (gs:=[1,5]) hi.le eL (each ⟨rfl,rfl,rfl,rfl,rfl,rfl,rfl,rfl,trivial⟩) (.cons (el1 hn) (.cons (el5 .a hi) .nil)) rfl (q 1 _ (.f1 (.mk hn)))
   |b=>exact ZW (gs:=[5]) hi.le eL (each ⟨rfl,rfl,rfl,rfl,rfl,rfl,rfl,rfl,trivial⟩) (.cons (el5 .b hi) .nil) rfl (q 5 _ (.f5 hi .a))
  |mix _ hm=>cases hk with
   |a=>exact ZW (gs:=[5]) hi.le eL (each ⟨rfl,rfl,rfl,rfl,rfl,rfl,rfl,rfl,trivial⟩) (.cons (el5 .a hi) .nil) rfl (q 5 _ (.f5 hi (.b hm)))
   |b=>exact ZW (gs:=[5]) hi.le eL (each ⟨rfl,rfl,rfl,rfl,rfl,rfl,rfl,rfl,trivial⟩) (.cons (el5 .b hi) .nil) rfl (q 5 _ (.f5 hi .a))
 |@dec k is hk hi=>
  generalize eL:TT is=L
  have s:=eL▸spl hi
  cases s with
  |fns hn=>cases hk with
   |a=>exact ZW (gs:=[3,7]) hi.le eL (each ⟨rfl,rfl,rfl,rfl,rfl,rfl,rfl,rfl,trivial⟩) (.cons (el3 hn) (.cons (el7 .a hi) .nil)) rfl (q 3 _ (.f3 (.mk hn)))
   |b=>exact ZW (gs:=[7]) hi.le eL (each ⟨rfl,rfl,rfl,rfl,rfl,rfl,rfl,rfl,trivial⟩) (.cons (el7 .b hi) .nil) rfl (q 7 _ (.f7 hi .a))
  |mix _ hm=>cases hk with
   |a=>exact ZW (gs:=[7]) hi.le eL (each ⟨rfl,rfl,rfl,rfl,rfl,rfl,rfl,rfl,trivial⟩) (.cons (el7 .a hi) .nil) rfl (q 7 _ (.f7 hi (.b hm)))
   |b=>exact ZW (gs:=[7]) hi.le eL (each ⟨rfl,rfl,rfl,rfl,rfl,rfl,rfl,rfl,trivial⟩) (.cons (el7 .b hi) .nil) rfl (q 7 _ (.f7 hi .a))
end
section
variable{r:Nat}{st:St}{Q:D→St→Prop}{X:Xp}{pad:Nat}
theorem CY{ks:List Int}(h:ZI 2 Kd ks){Q:D→St→Prop}{X:Xp}(q:Q (iL (K3 ks pad)) st):cN (r+3) 902 [.d (.list (ks.map fun k=> .list [.int (128+k)])),.d (.int pad)] st Q X:=
 Mz (g:=fun k=>128+k) (k:=2) ⟨by rw[aq];exact h.le,h.all.map fun k hk=>hk.Vl⟩ (by decide) q
theorem Pf{ks:List Int}(h:ZI 2 Kd ks):Oc 7 (K3 ks pad):=Zf.app ⟨h.all.map fun k hk=>hk.Vl,by rw[aq];exact h.le⟩
theorem CW{a b:Tx}{x:Ab}(hx:x.Ok)(q:Q (.list [iL (Y4 a pad++(Y4 b pad++x.sort::x.enc pad))]) st):cN (r+5) 936 [.d (.tup [.str a.s,.str b.s,.int x.sort,x.d]),.d (.int 2),.d (.int pad)] st Q X:=by
 have hs:By x.sort:=by cases x<;>rfl
 rw[show Y4 a pad++(Y4 b pad++x.sort::x.enc pad)=((Y4 a pad++Y4 b pad)++[x.sort])++x.enc pad by rw[b8,b8];rfl] at q
 unfold iL at q
 rw[bf,bf,bf] at q
 exact Za (ns:=12) rfl rfl (Qd (r:=r) (Qd (r:=r) (LD.lim (Wo.ld.app Wo.ld) (by decide) (LD.lim ((Wo.ld.app Wo.ld).app (M7 hs).ld) (by decide) (TQ (r:=r+1) hx (LD.lim (((Wo.ld.app Wo.ld).app (M7 hs).ld).app (Ab.oc hx).ld) (by decide) q))))))
theorem CX{a:Tx}{s:Fin 4}{i:Int}(hi:Zx i)(q:Q (.list [iL (Y4 a pad++(s.val:Int)::free i pad)]) st):cN (r+5) 936 [.d (.tup [.str a.s,.int s.val,.int i]),.d (.int 7),.d (.int pad)] st Q X:=by
 rw[show Y4 a pad++(s.val:Int)::free i pad=(Y4 a pad++[(s.val:Int)])++free i pad by rw[b8];rfl] at q
 unfold iL at q
 rw[bf,bf] at q
 exact Za (ns:=12) rfl rfl (Qd (r:=r) (LD.lim (Wo.ld.app (M7 (Qh s)).ld) (by decide) (Z9 (r:=r+2) hi (LD.lim ((Wo.ld.app (M7 (Qh s)).ld).app Zf.ld) (by decide) q))))
theorem CV{ps rs:List Int}(hp:ZI 2 Kd ps)(hr:ZI 2 Kd rs)(q:Q (.list [iL (C7 ps rs pad)]) st):cN (r+5) 936 [.d (.tup [.tup (ps.map .int),.tup (rs.map .int)]),.d (.int 3),.d (.int pad)] st Q X:=by
 rw[show C7 ps rs pad=([96]++K3 ps pad)++K3 rs pad from rfl] at q
 unfold iL at q
 rw[bf,bf] at q
 have l:∀{ks:List Int},ZI 2 Kd ks→(ks.map D.int).length≤YU:=fun h=>by rw[aq];exact ao h.le (by decide)
 refine Za (ns:=12) rfl rfl (Zr (l hp) (comp_map (P:=Kd) (f:= .int) (g:=fun k=> .list [.int (128+k)]) (fun a _ k hk=>hk) hp.all (CY (r:=r+1) (X:=To) hp ?_)))
 refine Zr (l hr) (comp_map (P:=Kd) (f:= .int) (g:=fun k=> .list [.int (128+k)]) (fun a _ k hk=>hk) hr.all (CY (r:=r+1) (X:=To) hr ?_))
 exact LD.lim ((M7 (a:=96) rfl).ld.app (Pf hp).ld) (by decide) (LD.lim (((M7 (a:=96) rfl).ld.app (Pf hp).ld).app (Pf hr).ld) (by decide) q)
theorem SM{x:Ab}(hx:x.Ok)(h0:x.sort≠0)(q:Q (.list [iL (x.enc pad)]) st):cN (r+5) 936 [.d x.d,.d (.int (x.sort+3)),.d (.int pad)] st Q X:=by
 cases hx with
 |idx _=>exact absurd rfl h0
 |tab a b c=>exact Za (ns:=12) rfl rfl (TQ (r:=r+1) (.tab a b c) q)
 |mem a b=>exact Za (ns:=12) rfl rfl (TQ (r:=r+1) (.mem a b) q)
 |glob a b=>exact Za (ns:=12) rfl rfl (TQ (r:=r+1) (.glob a b) q)
theorem KO{t:Th}(ht:t.Ok)(q:∀f fs,t.Fs f fs→Q (.list ((f::fs).map fun g=>iL (t.enc g pad))) st):cN (r+5) 936 [.d t.d,.d (.int t.sort),.d (.int pad)] st Q X:=by
 cases ht with
 |elem hx=>exact Za (ns:=12) rfl rfl (Ex (r:=r) hx fun f fs h=>q f fs (.elem h))
 |data hx=>exact Za (ns:=12) rfl rfl (Es (r:=r) hx fun f fs h=>q f fs (.data h))
 |imp hx=>exact CW hx (q 0 [] (.rest (.imp hx) (ew 2)))
 |typ hp hr=>exact CV hp hr (q 0 [] (.rest (.typ hp hr) (by decide:2≤3)))
 |tab a b c=>exact SM (.tab a b c) (fun h=>nomatch h) (q 0 [] (.rest (.tab a b c) (by decide:2≤4)))
 |mem a b=>exact SM (.mem a b) (fun h=>nomatch h) (q 0 [] (.rest (.mem a b) (by decide:2≤5)))
 |glob a b=>exact SM (.glob a b) (fun h=>nomatch h) (q 0 [] (.rest (.glob a b) (by decide:2≤6)))
 |exp hi=>exact CX hi (q 0 [] (.rest (.exp hi) (by decide:2≤7)))
end
noncomputable abbrev KP(w:Str)(p:Str × Int):D:= .tup [.str w,.str p.1,.int p.2]
noncomputable def AdJ:PS:=VD (Ye (Z1 3 Rp))
section
variable{r:Nat}{st:St}{Q:D→St→Prop}{X:Xp}{pad:Nat}
theorem M8{d s b l6:D}{c:Int}{N:Ev→St→Prop}(n:Q (KP "malformed" (U0,c)) st→∀s5 s7 s8,N [some (.d d),some (.d s),some (.d (.int pad)),some (.d b),some (.d (.int c)),s5,some (.d l6),s7,s8,none,none,none] st):∀{ts:List Tx} {a a':Int} {s7 s8:Option S},a'=a→Q (KP "malformed" (Wn ts pad a c)) st→
  XV (fun env st k=>wpS (cx (r+4)) AdJ env st k Q X) [7] (ts.map fun x=> .str x.s) [some (.d d),some (.d s),some (.d (.int pad)),some (.d b),some (.d (.int c)),some (.d (.int a')),some (.d l6),s7,s8,none,none,none] st N
 |[],a,a',s7,s8,e,q=>n q _ _ _
 |x::ts,a,a',s7,s8,e,q=>by
  subst e
  have e1:((Y4 x pad).map D.int).length=(Y4 x pad).length:=aq ..
  have e2:(x.o.map D.int).length=x.o.length:=aq ..
  have u:Wn (x::ts) pad a' c=match decide (a'+((Y4 x pad).map D.int).length - (x.o.map D.int).length≤c)&&decide (c<a'+((Y4 x pad).map D.int).length) with|true=>(U1,a'+((Y4 x pad).map D.int).length - (x.o.map D.int).length)|false=>Wn ts pad (a'+(Y4 x pad).length) c:=by rw[e1,e2];rfl
  rw[u] at q
  refine Qd (r:=r) (Yh K6 (Zu (b:=decide (a'+((Y4 x pad).map D.int).length - (x.o.map D.int).length≤c)) (fun g=>Zu (b:=decide (c<a'+((Y4 x pad).map D.int).length)) (fun g2=> ?_) fun g2=> ?_) fun g=> ?_))
  ·rw[g,g2] at q;exact q
  ·rw[g,g2] at q;exact M8 n (by rw[e1]) q
  ·rw[g] at q;exact M8 n (by rw[e1]) q
theorem fR{t:Th}{b c:Int}(q:Q (KP "malformed" (Wn t.texts pad b c)) st):cN (r+5) 964 [.d t.d,.d (.int t.sort),.d (.int pad),.d (.int b),.d (.int c)] st Q X:=by
 cases t with
 |imp x y _=>exact Za (ns:=12) rfl rfl (M8 (r:=r) (ts:=[x,y]) (fun q _ _ _=>q) rfl q)
 |exp x _ _=>exact Za (ns:=12) rfl rfl (M8 (r:=r) (ts:=[x]) (fun q _ _ _=>q) rfl q)
 |_=>exact Za (ns:=12) rfl rfl q
end
abbrev Row:Type:=Int × List Int × Str × Int
noncomputable def Xn:List Row:=[(0,[8],"malformed elements segment kind",0),
 (0,[1,1],"malformed element kind",1),
 (0,[5,127],"malformed reference type",1),
 (0,[2,3,65,0,11,1],"malformed element kind",5),
 (0,[6,0,65,0,11,125],"malformed reference type",5),
 (0,[0,65,0,5],"END opcode expected",3),
 (0,[7,112,1,208,127],"malformed reference type",4),
 (0,[3,0,1,128,128,128,128,16],"integer too large",3),
 (0,[4,65,0,11,1,6],"illegal opcode",5),
 (1,[3],"malformed data segment kind",0),
 (1,[1,3,97,98],"unexpected end",4),
 (1,[2,128,128,128,128,16],"integer too large",1),
 (1,[0,68],"an instruction that is left out",1),
 (2,[0,0,4],"malformed \x69mport kind",2),
 (2,[0,0,1,127],"malformed reference type",3),
 (2,[0,0,2,2],"malformed limits flags",3),
 (2,[0,0,3,127,2],"malformed mutability",4),
 (2,[1,255],"malformed UTF-8 encoding",1),
 (2,[0,2,97,128],"malformed UTF-8 encoding",3),
 (2,[0,0,3,125],"floats are left out",3),
 (2,[0,0,0,128,128,128,128,16],"integer too large",3),
 (3,[97],"malformed function type",0),
 (3,[96,1,110],"malformed value type",2),
 (3,[96,0,1,123],"vectors are left out",3),
 (4,[127],"malformed reference type",0),
 (4,[111,2],"malformed limits flags",1),
 (5,[2],"malformed limits flags",0),
 (5,[1,0,128,128,128,128,16],"integer too large",2),
 (6,[64],"malformed value type",0),
 (6,[111,2],"malformed mutability",1),
 (7,[1,97,4],"malformed export kind",2),
 (7,[2,195,40],"malformed UTF-8 encoding",1)]
noncomputable def AaD(x:Row):D:= .tup [.int x.1,iL x.2.1,.str x.2.2.1,.int x.2.2.2]
noncomputable def G5(w:Str):Str:=match sEq (Ro w (-8)) "left out" with|true=>"left out"|false=>"malformed"
theorem fT:Xn.all (fun x=>nj (Ro x.2.2.1 (-8)).length YU)=true:=by kernel_rfl
theorem KQ{n:Nat}{k:Int}(h:In 0 n k):Uz n k=some k.toNat:=by
 unfold Uz
 rw[decide_eq_true h.lo]
 show(match decide (k<n) with|true=>some k.toNat|false=>none)=_
 rw[decide_eq_true h.hi]
noncomputable abbrev AdK:Ev:=[some (.tag .one),some (.d (.str "integer too large")),some (.d (.str "malformed reference type")),some (.d (.str "malformed limits flags")),some (.d (.str "malformed UTF-8 encoding")),some (.d (.tup (Xn.map AaD))),none,none,none,none,none,none,none]
section
variable{r:Nat}{st:St}{Q:D→St→Prop}{X:Xp}{v0:Int}
theorem fS{C:Cx}{N:Ev→St→Prop}{R:D→St→Prop}(h:wpS C (Z1 5 Wi) AdK st N R X):wpS C Wi (fr0 [.tag .one] 12) st N R X:=kr h (by kernel_rfl)
theorem Ey(q:∀x∈Xn,∀v,Q (.tup [.int x.1,iL x.2.1,.str (G5 x.2.2.1),.str x.2.2.1,.int x.2.2.2]) (st.w v)):cN (r+2) 971 [.tag .one] (st.w v0) Q X:=by
 refine Za (ns:=13) rfl rfl (fS (Yz (r:=r) (m:=32) (by decide) fun k v hk=> ?_))
 obtain⟨x,hx⟩:∃x,Xn[k.toNat]?=some x:=⟨_,dh (by show k.toNat<32;have:=hk.hi;have:=hk.lo;omega)⟩
 have hm:=ig hx
 have hw:=az.mp fT x hm
 refine Yh (KQ (n:=32) hk) (Yh (a:=AaD x) (by rw[f9,hx];rfl) (Z5 hw (Zu (b:=sEq (Ro x.2.2.1 (-8)) "left out") (fun g=> ?_) fun g=> ?_)))
 ·have q:=q x hm v;unfold G5 at q;rw[g] at q;exact q
 ·have q:=q x hm v;unfold G5 at q;rw[g] at q;exact q
end
def on4(l:List S)(K:S→S→S→S→Prop):Prop:=match l with|[a,b,c,d]=>K a b c d|_=>No
noncomputable def fU(j:Nat):Str:=match j with|0=>"malformed"|_=>"left out"
noncomputable abbrev St.u(st:St):St:={st with cur:=none}
def Rq(C:Cx)(ns:List Int)(b e k:Int)(st:St)(Q:D→St→Prop):Prop:=C.call 950 [.tag .cur,.d (.int k)] (st.c ns b e) (fun v st=>XK st.cur fun c=>Q (.tup [.str "a thing",v,.int c.2.1]) st.u) fun j YY at_ st=>Q (KP (fU j) (YY,at_)) st.u
def Ba(C:Cx)(vs:List S)(st:St)(Q:D→St→Prop):Prop:=on4 vs fun a b c d=>V0 a fun l=>ZK b fun p=>ZK c fun e=>ZK d fun k=>W2 st.cur.isNone (XK (YQ l) fun ns=>W2 (ns.all ZR) (Rq C ns p e k st Q))
section
variable{r:Nat}{st:St}{Q:D→St→Prop}{X:Xp}{pad:Nat}{O a p m:List Int}{t:Th}{f:Nat}
abbrev IF(C:Cx)(p:List Int)(st:St)(Q:D→St→Prop)(x:Row):Prop:=Rq C (p++x.2.1) p.length (p++x.2.1).length x.1 st Q
abbrev II(p:List Int)(st:St)(Q:D→St→Prop)(x:Row):Prop:=Q (KP (G5 x.2.2.1) (x.2.2.1,p.length+x.2.2.2)) st.u
theorem AaF(a:Int):Xn.map (IF (cu r 12) [a] st Q)=Xn.map (II [a] st Q):=by kernel_rfl
theorem AaG(a b:Int):Xn.map (IF (cu r 12) [a,b] st Q)=Xn.map (II [a,b] st Q):=by kernel_rfl
theorem AaE(a b c:Int):Xn.map (IF (cu r 12) [a,b,c] st Q)=Xn.map (II [a,b,c] st Q):=by kernel_rfl
theorem Bb{x:Row}(hx:x∈Xn)(h1:1≤p.length)(h3:p.length≤3)(q:II p st Q x):IF (cx (r+12)) p st Q x:=by
 have go:∀{p:List Int},Xn.map (IF (cu r 12) p st Q)=Xn.map (II p st Q)→II p st Q x→IF (cx (r+12)) p st Q x:=fun {p} h q=>by
  have:IF (cu r 12) p st Q x=II p st Q x:=List.map_inj_left.mp h x hx
  rw[CA] at this
  rw[this];exact q
 cases p with
 |nil=>exact absurd h1 (v8 _)
 |cons a p=>cases p with
  |nil=>exact go (AaF a) q
  |cons b p=>cases p with
   |nil=>exact go (AaG a b) q
   |cons c p=>cases p with
    |nil=>exact go (AaE a b c) q
    |cons d p=>exact absurd (iw (iw (iw h3))) (v8 _)
theorem CZ{w m:List Int}{e:Int}(he:e≤(p++(w++m)).length):At (p++(w++m)) p.length e (w++m):=
 ⟨iu _,he,fun i x hx _=>by
  rw[show((p.length:Int)+i).toNat=p.length+i from rfl,List.getElem?_append_right (br ..),Nat.add_sub_cancel_left];exact hx⟩
theorem IG(ht:t.Fm f)(q:Q (.tup [.str "a thing",t.d,.int (p.length+(t.enc f pad).length)]) st.u):Rq (cx (r+17)) (p++(t.enc f pad++m)) p.length (p++(t.enc f pad++m)).length t.sort st Q:=by
 refine Nc (r:=r) (pE:=p.length+(t.enc f pad++m).length) (m:=m) ht ⟨CZ (Int.le_refl _),kh.mpr (by rw[b4];exact br ..),rfl,fun g=>absurd g (by rw[b4];exact yi _)⟩ fun p' h=> ?_
 have h1:=h.fin
 have:p'=p.length+(t.enc f pad).length:=by rw[b4] at h1;exact(Int.add_left_inj m.length).mp (h1.trans (uy p.length (t.enc f pad).length m.length).symm)
 subst this
 exact q
theorem Bc{e:Int}(ht:t.Fm f)(h1:p.length≤e)(h2:e<(p++t.enc f pad).length)(q:Q (KP "malformed" (Wn t.texts pad p.length e)) st.u):Rq (cx (r+17)) (p++t.enc f pad) p.length e t.sort st Q:=by
 rw[b4] at h2
 have a:=CZ (p:=p) (w:=t.enc f pad) (m:=[]) (e:=e) (by rw[bw,b4];exact kg h2)
 rw[bw] at a
 exact Nc (r:=r) (pE:=p.length+(t.enc f pad).length) (m:=[]) ht ⟨by rw[bw];exact a,h1,by rw[bw],fun _ _=>q⟩ fun p' h=>absurd h.le (jc.mpr (j6 h2 (Int.le_of_eq ((qa p').symm.trans h.fin).symm)))
end
noncomputable abbrev Tf(r:Nat):Cx:=⟨fun f vs st Q X=>Bx (match qp f 957 with|true=>Ba (cx r) vs st Q|false=>Kf QD (r+1) f vs st Q X),QB,XQ⟩
noncomputable def xV:PS:=(.seq (.set 3 (.bin .Add (.lit (.int 1)) (.call 796 (.cons (.var 2) (.cons (.lit (.int 2)) .nil))))) (.seq (.set 4 (.comp (.call 796 (.cons (.var 2) (.cons (.lit (.int 256)) .nil))) [21] (.blt 1 (.cons (.bin .Add (.lit (.int 1)) (.call 796 (.cons (.var 2) (.cons (.lit (.int 3)) .nil)))) .nil)) .nil)) (.seq (.set 5 (.comp (.bin .Mod (.bin .Add (.lit (.int 11)) (.call 796 (.cons (.var 2) (.cons (.lit (.int 256)) .nil)))) (.lit (.int 256))) [21] (.blt 1 (.cons (.lit (.int 2)) .nil)) .nil)) (.seq (.set 6 (.blt 0 (.cons (.var 4) .nil))) .skip))))
noncomputable def lwC:PS:=(.seq (.ex (.Zv 7 13 (.cons (.blt 4 (.cons (.var 4) .nil)) .nil))) (.seq (.RT 8 (.var 4)) .skip))
noncomputable def cO:PS:=(.seq (.set 10 (.bin .Mod (.bin .Add (.call 796 (.cons (.var 2) (.cons (.lit (.int 8)) .nil))) (.var 9)) (.lit (.int 8)))) (.seq (.set 11 (.call 876 (.cons (.var 2) (.cons (.var 10) .nil)))) (.seq (.set 12 (.call 936 (.cons (.var 11) (.cons (.var 10) (.cons (.lit (.int 0)) .nil))))) (.seq (.set 13 (.call 936 (.cons (.var 11) (.cons (.var 10) (.cons (.var 3) .nil))))) (.seq (.set 14 (.sub (.var 12) (.sub (.sub (.blt 9 (.cons (.comp (.tup (.cons (.blt 0 (.cons (.sub (.var 12) (.var 21)) .nil)) (.cons (.var 21) .nil))) [21] (.blt 1 (.cons (.blt 0 (.cons (.var 12) .nil)) .nil)) .nil) .nil)) (.lit (.int 0))) (.lit (.int 1))))) (.seq (.ext 8 (.var 14)) (.seq (.ex (.call 943 (.cons (.var 7) (.cons (.var 11) (.cons (.var 10) .nil))))) .skip)))))))
noncomputable def xU:PS:=(.seq (.VC [15] (.cons (.bin .Add (.lst (.cons (.var 14) .nil)) (.var 13)) .nil) (.seq (.set 16 (.bin .Add (.bin .Add (.var 4) (.var 15)) (.var 5))) (.seq (.ite (.cmp .NotEq (.call 957 (.cons (.var 16) (.cons (.var 6) (.cons (.blt 0 (.cons (.var 16) .nil)) (.cons (.var 10) .nil))))) (.tup (.cons (.lit (.str "a thing")) (.cons (.var 11) (.cons (.bin .Add (.var 6) (.blt 0 (.cons (.var 15) .nil))) .nil))))) (.seq (.Zl (.lit (.bool false))) .skip) .skip) .skip))) (.seq (.set 16 (.bin .Add (.var 4) (.sub (.var 13) (.neg (.lit (.int 1)))))) (.seq (.set 17 (.bin .Sub (.bin .Sub (.blt 0 (.cons (.var 16) .nil)) (.lit (.int 1))) (.call 796 (.cons (.var 2) (.cons (.blt 0 (.cons (.sub (.var 13) (.neg (.lit (.int 1)))) .nil)) .nil))))) (.seq (.ite (.cmp .NotEq (.call 957 (.cons (.var 16) (.cons (.var 6) (.cons (.var 17) (.cons (.var 10) .nil))))) (.call 964 (.cons (.var 11) (.cons (.var 10) (.cons (.var 3) (.cons (.var 6) (.cons (.var 17) .nil))))))) (.seq (.Zl (.lit (.bool false))) .skip) .skip) .skip))))
noncomputable def lwF:PS:=(.seq (.set 15 (.bin .Add (.var 4) (.var 15))) .skip)
noncomputable def lwG:PS:=(.Zl (.cmp .Eq (.call 957 (.cons (.var 15) (.cons (.var 6) (.cons (.blt 0 (.cons (.var 15) .nil)) (.cons (.var 10) .nil))))) (.tup (.cons (.var 18) (.cons (.var 19) (.cons (.bin .Add (.var 6) (.var 20)) .nil))))))
inductive LS|Ez(p:PS)|next|sink|same|IJ
abbrev noR:D→St→Prop:=fun _ _=>False
noncomputable abbrev St.nx(st:St)(l:List Int):St:={st with digits:=some l.tail,one:=some (l.headD 0)}
noncomputable def Rr(t:Tag):Option S→Bool
 |some (.tag u)=>(match t,u with| .digits,.digits=>true| .one,.one=>true| .sink,.sink=>true| .cur,.cur=>true|_,_=>false)
 |_=>false
noncomputable def Pg(t:Tag)(env:Ev):Bool:=env.all fun o=> !Rr t o
def mD(a:S)(K:List D→Prop):Prop:=match a with| .own l=>K l|_=>No
def KR(env:Ev)(st:St)(K:Ev→St→Prop):Prop:=XK st.digits fun l=>lim l.length (XK env[1]? fun o=>W2 (Rr .digits o&&Pg .one (env.set 2 none)) (K (env.set 2 none) (st.nx l)))
def wpL(r:Nat):LS→Ev→St→(Ev→St→Prop)→Prop
 | .Ez p,env,st,N=>wpS (Tf r) p env st N noR To
 | .next,env,st,N=>KR env st fun env st=>N (env.set 2 (some (.tag .one))) st
 | .sink,env,st,N=>W2 (Pg .sink env) (N (env.set 7 (some (.tag .sink))) {st with sink:=some []})
 | .same,env,st,N=>XK st.sink fun l=>lim l.length (XK env[7]? fun o=>W2 (Rr .sink o) (VB env 8 fun a=>mD a fun ls=>XK (YQ ls) fun ns=>(ns=l∧l.all ZR=true)∧N env st))
 | .IJ,env,st,N=>KR env st fun env st=>cN (r+1) 971 [.tag .one] st (fun v st=>XK (bindTo env [10,15,18,19,20] v) fun env=>N env st) To
noncomputable def KU(r:Nat):List LS→Ev→St→(Ev→St→Prop)→Prop
 |[],env,st,N=>N env st
 |a::l,env,st,N=>wpL r a env st fun env st=>KU r l env st N
noncomputable def M9(r:Nat)(l:List LS):List Nat→Ev→St→(Ev→St→Prop)→Prop
 |[],env,st,N=>N env st
 |k::ks,env,st,N=>KU r l (env.set 9 (some (.d (.int k)))) st fun env st=>M9 r l ks env st N
noncomputable def tL:List LS:=[.next,.Ez xV,.sink,.Ez lwC]
noncomputable def tK:List LS:=[.next,.Ez cO,.same,.Ez xU]
noncomputable def tM:List LS:=[.IJ,.Ez lwF]
def AaH(r:Nat)(a0:D)(ns:List Int):Prop:=KU r tL (some (.d a0)::some (.tag .digits)::i8 20 none) {digits:=some ns} fun env st=>M9 r tK [0,1,2,3] env st fun env st=>KU r tM env st fun env st=>wpS (Tf r) lwG env st (fun _ _=>False) (fun v _=>v= .bool true) To
theorem Oc.cons{n:Nat}{x:Int}{b:List Int}(h:By x)(g:Oc n b):Oc (n+1) (x::b):= .one h g
theorem El.Fm.oc{x:El}{f pad:Nat}(h:x.Fm f):Oc 210 (x.enc f pad):=by
 cases h with
 |f0 hl hi=>cases hi with|mk hi=>exact(Zf.app ((ZF hl).app (Parts.fns rfl hi.le).oc)).mono (by decide)
 |f1 hi=>cases hi with|mk hi=>exact(Zf.app (Oc.cons rfl (Parts.fns rfl hi.le).oc)).mono (by decide)
 |f2 ht hl hi=>cases hi with|mk hi=>exact Zf.app (Zf.app ((ZF hl).app (Oc.cons rfl (Parts.fns rfl hi.le).oc)))
 |f3 hi=>cases hi with|mk hi=>exact(Zf.app (Oc.cons rfl (Parts.fns rfl hi.le).oc)).mono (by decide)
 |f4 hl hi=>exact(Zf.app ((ZF hl).app (Parts.CR rfl hi).oc)).mono (by decide)
 |f5 hk hi=>exact(Zf.app (Oc.cons hk.Vl (Parts.CR rfl hi).oc)).mono (by decide)
 |f6 ht hl hk hi=>exact Zf.app (Zf.app ((ZF hl).app (Oc.cons hk.Vl (Parts.CR rfl hi).oc)))
 |f7 hk hi=>exact(Zf.app (Oc.cons hk.Vl (Parts.CR rfl hi).oc)).mono (by decide)
theorem Dt.Fm.oc{x:Dt}{f pad:Nat}(h:x.Fm f):Oc 210 (x.enc f pad):=by
 cases h with
 |f0 hl hb=>exact(Zf.app ((ZF hl).app (Zf.app hb.oc))).mono (by decide)
 |f1 hb=>exact(Zf.app (Zf.app hb.oc)).mono (by decide)
 |f2 hm hl hb=>exact(Zf.app (Zf.app ((ZF hl).app (Zf.app hb.oc)))).mono (by decide)
theorem Th.Fm.oc{t:Th}{f pad:Nat}(h:t.Fm f):Oc 210 (t.enc f pad):=by
 cases h with
 |elem h=>exact h.oc
 |data h=>exact h.oc
 |rest ht hs=>cases ht with
  |elem _=>exact absurd hs (by show ¬2≤0;decide)
  |data _=>exact absurd hs (by show ¬2≤1;decide)
  |imp hx=>exact(Wo.app (Wo.app (Oc.cons (by cases hx<;>rfl) (Ab.oc hx)))).mono (by decide)
  |typ ha hb=>exact(Oc.cons rfl ((Pf ha).app (Pf hb))).mono (by decide)
  |tab ha hb hc=>exact(Oc.cons ha.Vl Qe).mono (by decide)
  |mem ha hb=>exact Qe.mono (by decide)
  |glob ha hb=>exact(Oc.cons (n:=1) ha.Vl (M7 hb.Vl)).mono (by decide)
  |exp hi=>exact(Wo.app (Oc.cons (Qh _) Zf)).mono (by decide)
theorem WJ{n:Int}{pad:Nat}:1≤(free n pad).length:=by
 unfold free groups
 obtain⟨j,hj⟩:∃j,min 5 (many n+pad)=j+1:=RZ (Nat.le_min.mpr ⟨by decide,ao (TN (T:=QV n)) (br _ pad)⟩)
 rw[hj]
 exact cj (ie _)
theorem Th.Fm.pos{t:Th}{f pad:Nat}(h:t.Fm f):1≤(t.enc f pad).length:=by
 have a:∀{x y:List Int},1≤x.length→1≤(x++y).length:=fun h=>by rw[b4];exact ao h (br ..)
 cases h with
 |elem _=>exact a WJ
 |data _=>exact a WJ
 |@rest t _ _ _=>cases t with
  |elem _=>exact a WJ
  |data _=>exact a WJ
  |imp x y b=>exact a (a WJ)
  |mem _ b=>cases b<;>exact cj (ie _)
  |exp x s i=>exact a (a WJ)
  |_=>exact cj (ie _)
theorem Th.Fs.fm{t:Th}{f:Nat}{fs:List Nat}(h:t.Fs f fs):All t.Fm (f::fs):=by
 cases h with
 |rest a b=>exact .cons (.rest a b) .nil
 |data h=>cases h with
  |cM hb=>exact .cons (.data (.f1 hb)) .nil
  |low hl hb=>exact .cons (.data (.f0 hl hb)) (.cons (.data (.f2 (.lit rfl) hl hb)) .nil)
  |act _ hm hl hb=>exact .cons (.data (.f2 hm hl hb)) .nil
 |elem h=>cases h with
  |f0 hl hi=>cases hi with|mk hi=>exact .cons (.elem (.f0 hl (.mk hi))) (.cons (.elem (.f2 (.lit rfl) hl (.mk hi))) (.cons (.elem (.f4 hl (W9 hi))) (.cons (.elem (.f6 (.lit rfl) hl .a (W9 hi))) .nil)))
  |f1 hi=>cases hi with|mk hi=>exact .cons (.elem (.f1 (.mk hi))) (.cons (.elem (.f5 .a (W9 hi))) .nil)
  |f2 _ ht hl hi=>cases hi with|mk hi=>exact .cons (.elem (.f2 ht hl (.mk hi))) (.cons (.elem (.f6 ht hl .a (W9 hi))) .nil)
  |f3 hi=>cases hi with|mk hi=>exact .cons (.elem (.f3 (.mk hi))) (.cons (.elem (.f7 .a (W9 hi))) .nil)
  |f4 hl hi _=>exact .cons (.elem (.f4 hl hi)) (.cons (.elem (.f6 (.lit rfl) hl .a hi)) .nil)
  |f5 hi hk=>exact .cons (.elem (.f5 hk.rk hi)) .nil
  |f6 ht hl hi hk _=>exact .cons (.elem (.f6 ht hl hk.rk hi)) .nil
  |f7 hi hk=>exact .cons (.elem (.f7 hk.rk hi)) .nil
theorem VM{F G a b t c:List Int}(hF:F.length≤G.length)(h:b.length≤c.length):(F++(a++b)).length≤(G++(t++(a++c))).length:=by
 rw[b4,b4,b4,b4,b4];omega
theorem tN{o b c:List Int}(h:b.length≤c.length):(o++b).length≤(o++c).length:=by rw[b4,b4];exact d9 h _
theorem G6:∀{ns:List Int},(flat ((ns.map Zm.fn).map (El.part 0 0))).length≤(flat ((ns.map Zm.fn).map (El.part 4 0))).length
 |[]=>ew _
 |n::ns=>by
  have:=G6 (ns:=ns)
  show(free n 0++flat _).length≤((210::(free n 0++[11]))++flat _).length
  rw[b4,b4,jx,b4];omega
theorem TU{ns:List Int}:(YN 0 0 (ns.map Zm.fn)).length≤(YN 4 0 (ns.map Zm.fn)).length:=by
 unfold YN
 rw[b4,b4,aq,aq,aq (f:=El.part 4 0),aq]
 exact d9 G6 _
theorem Th.Fs.min{t:Th}{f:Nat}{fs:List Nat}(h:t.Fs f fs):All (fun g=>(t.enc f 0).length≤(t.enc g 0).length) fs:=by
 cases h with
 |rest _ _=>exact .nil
 |data h=>cases h with
  |cM _=>exact .nil
  |low _ _=>exact .cons (VM (F:=free 0 0) (G:=free 2 0) (ew 1) (ew _)) .nil
  |act _ _ _ _=>exact .nil
 |elem h=>cases h with
  |f0 hl hi=>cases hi with|mk hi=>exact .cons (VM (F:=free 0 0) (G:=free 2 0) (ew 1) (pq _)) (.cons (VM (F:=free 0 0) (G:=free 4 0) (t:=[]) (ew 1) TU) (.cons (VM (F:=free 0 0) (G:=free 6 0) (ew 1) (nq TU)) .nil))
  |f1 hi=>cases hi with|mk hi=>exact .cons (VM (F:=free 1 0) (G:=free 5 0) (a:=[]) (t:=[]) (ew 1) (cj TU)) .nil
  |f2 _ ht hl hi=>cases hi with|mk hi=>exact .cons (VM (F:=free 2 0) (G:=free 6 0) (t:=[]) (ew 1) (tN (cj TU))) .nil
  |f3 hi=>cases hi with|mk hi=>exact .cons (VM (F:=free 3 0) (G:=free 7 0) (a:=[]) (t:=[]) (ew 1) (cj TU)) .nil
  |f4 hl hi _=>exact .cons (VM (F:=free 4 0) (G:=free 6 0) (ew 1) (pq _)) .nil
  |f5 _ _=>exact .nil
  |f6 _ _ _ _ _=>exact .nil
  |f7 _ _=>exact .nil
theorem Bd{α:Type}{p:α→Bool}{l:List α}(h:∀a,p a=true):l.all p=true:=az.mpr fun a _=>h a
theorem all_map'{α:Type}{g:α→D}{p:D→Bool}{l:List α}(h:∀a,p (g a)=true):(l.map g).all p=true:=by rw[List.all_map];exact Bd h
theorem tP(i:Zm):i.d.Yb 4=true:=by cases i<;>rfl
theorem tO(l:List Zm):(XG l).Yb 5=true:=by
 show(l.map Zm.d++[i1 11]).all (D.Yb 4)=true
 rw[List.all_append,all_map' tP];rfl
theorem fX(l:List Zm):(XG l).Yb 6=true:=by
 show(l.map Zm.d++[i1 11]).all (D.Yb 5)=true
 rw[List.all_append,all_map' (fun i=>by cases i<;>rfl)];rfl
theorem Bf(c:Option (List Zm)):(Ku c).Yb 6=true:=by
 cases c with
 |none=>rfl
 |some l=>exact fX l
theorem fY(l:List Zm):(Xw l).Yb 6=true:=all_map' (p:=D.Yb 5) fun i=>tO [i]
theorem Be(b:Option Int):(SI b).Yb 6=true:=by cases b<;>rfl
theorem G7(b:Option Int):(SI b).Yb 5=true:=by cases b<;>rfl
theorem a4{a b:Bool}(h1:a=true)(h2:b=true):(a&&b)=true:=by rw[h1,h2];rfl
theorem AaI(t:Th):t.d.Yb 7=true:=by
 cases t with
 |elem x=>exact a4 (Bf _) (a4 rfl (a4 (fY _) rfl))
 |data x=>exact a4 (Bf _) rfl
 |imp a b x=>cases x with
  |idx _=>rfl
  |tab _ _ b=>exact a4 (a4 (G7 b) rfl) rfl
  |mem _ b=>exact a4 (a4 (G7 b) rfl) rfl
  |glob _ _=>rfl
 |typ ps rs=>exact a4 (all_map' (p:=D.Yb 5) fun _=>rfl) (a4 (all_map' (p:=D.Yb 5) fun _=>rfl) rfl)
 |tab _ _ b=>exact a4 (Be b) rfl
 |mem _ b=>exact a4 (Be b) rfl
 |glob _ _=>rfl
 |exp _ _ _=>rfl
theorem fW(s:Str)(t:Th)(i:Int):(D.tup [.str s,t.d,.int i]).Yb 8=true:=a4 (AaI t) rfl
structure IK where
 pad:Nat
 ah:List Int
 be:List Int
 b:Int
structure IK.Ok(g:IK):Prop where
 a1:1≤g.ah.length
 a3:g.ah.length≤3
 ab:All By g.ah
 bb:ZI 2 By g.be
 hb:g.b=g.ah.length
noncomputable def oS:Option D→Option S
 |none=>none
 |some d=>some (.d d)
noncomputable abbrev lE(a0:D)(g:IK)(w:List Int)(x:Ev):Ev:=some (.d a0)::some (.tag .digits)::some (.tag .one)::some (.d (.int g.pad))::some (.d (iL g.ah))::some (.d (iL g.be))::some (.d (.int g.b))::some (.tag .sink)::some (.own (w.map .int))::x
noncomputable abbrev sA(l w:List Int):St:={digits:=some l,sink:=some w}
section
variable{a0:D}{g:IK}{ns l w:List Int}{v0:Int}{N:Ev→St→Prop}{R:D→St→Prop}{X:Xp}
noncomputable abbrev Nk:Ev:=[none,none,none,none,none,none,none,none,none,none,none,none,none,none,none]
end
theorem ints_map:∀l:List Int,YQ (l.map .int)=some l
 |[]=>rfl
 |a::l=>by
  show((some a).bind fun a=>(YQ (l.map .int)).map (a:: ·))=_
  rw[ints_map l];rfl
noncomputable abbrev r13:Ev:=[none,none,none,none,none,none,none,none,none,none,none,none,none]
section
variable{a0:D}{g:IK}{ns l w:List Int}{v0:Int}{N:Ev→St→Prop}{R:D→St→Prop}{X:Xp}{st:St}
theorem Ph{r m:Nat}{Q:D→St→Prop}(hm:0<m)(q:∀(n:Nat) v,n<m→Q (.int n) (st.w v)):cN (r+1) 796 [.tag .one,.d (.int m)] (st.w v0) Q X:=
 Yz (zj.mpr hm) fun k v hk=>by
  obtain⟨n,e⟩:=oj hk.lo
  subst e
  exact q n v (qd.mp hk.hi)
theorem SN{P:Int→Prop}{body:Ev→St→(Option D→St→Prop)→Prop}{i:Nat}{env:Ev}{Q:List D→St→Prop}(h:∀x v (K:Option D→St→Prop),(∀k v,P k→K (some (.int k)) (st.w v))→body (env.set i (some (.d x))) (st.w v) K):
  ∀{xs acc:List D} {v:Int},(∀bs v,bs.length=xs.length→All P bs→Q (acc++bs.map .int) (st.w v))→Wf body [i] xs env (st.w v) acc Q
 |[],acc,v,q=>by have:=q [] v rfl .nil;rw[qe,bw] at this;exact this
 |x::xs,acc,v,q=>h x v _ fun k v hk=>SN h fun bs v hl hb=>by have:=q (k::bs) v (congrArg (· +1) hl) (.cons hk hb);rw[b8];exact this
theorem AdO{pad:Nat}{ah:List Int}{st:St}(h1:1≤ah.length)(h3:ah.length≤3)(ha:All By ah)(q:∀g v,IK.Ok g→g.pad=pad→N ([some (.d a0),some (.tag .digits),some (.tag .one),some (.d (.int g.pad)),some (.d (iL g.ah)),some (.d (iL g.be)),some (.d (.int g.b))]++Nk) (st.w v)):
  wpS (Tf 40) (Z1 2 xV) ([some (.d a0),some (.tag .digits),some (.tag .one),some (.d (.int pad)),some (.d (iL ah)),none,none]++Nk) (st.w v0) N R X:=by
 have b:∀{k:Int},By ((11+k).fmod 256):=OT ⟨z0 _ (by decide),Int.fmod_lt_of_pos _ (by decide)⟩
 exact SN (P:=By) (fun x v K hK=>Yz (r:=40) (X:=To) (m:=256) (by decide) fun k v _=>hK _ v b) fun bs v hl hb=>ZQ (by exact q ⟨pad,ah,bs,_⟩ v ⟨h1,h3,ha,⟨u6 hl,hb⟩,by rw[aq]⟩ rfl)
theorem AaK{pad:Nat}(q:∀g v,IK.Ok g→N ([some (.d a0),some (.tag .digits),some (.tag .one),some (.d (.int g.pad)),some (.d (iL g.ah)),some (.d (iL g.be)),some (.d (.int g.b))]++Nk) (st.w v)):
  wpS (Tf 40) (Z1 1 xV) ([some (.d a0),some (.tag .digits),some (.tag .one),some (.d (.int pad)),none,none,none]++Nk) (st.w v0) N R X:=
 Ph (r:=40) (m:=3) (by decide) fun n v hn=>Zr (n:=1+n) (ao (d9 (rj hn) 1) (by decide)) (Zr (n:=(YO (1+n)).length) (by rw[YO,aq,gr];exact ao (d9 (rj hn) 1) (by decide))
  (SN (P:=By) (fun x v K hK=>Yz (r:=40) (X:=To) (m:=256) (by decide) fun k v hk=>hK k v (OT hk)) fun bs v hl hb=>ZQ (by
   have e:bs.length=1+n:=hl.trans (by rw[YO,aq,gr])
   exact AdO (ah:=bs) (by omega) (by omega) hb fun g v h _=>q g v h)))
theorem AaJ{x y:Int}{Q:D→Prop}(q:Q (.int (x+y))):Ea .Add (.d (.int x)) (.d (.int y)) Q:=q
theorem AdP(q:∀g v,IK.Ok g→N ([some (.d a0),some (.tag .digits),some (.tag .one),some (.d (.int g.pad)),some (.d (iL g.ah)),some (.d (iL g.be)),some (.d (.int g.b))]++Nk) (st.w v)):
  wpS (Tf 40) xV ([some (.d a0),some (.tag .digits),some (.tag .one),none,none,none,none]++Nk) (st.w v0) N R X:=
 Z4 (n:=2) (by decide) ⟨fun v=>AaJ (ZQ (by exact AaK (pad:=2) q)),fun v=>AaJ (ZQ (by exact AaK (pad:=1) q)),trivial⟩
theorem AdN(hg:g.Ok)(q:N (lE a0 g g.ah r13) ((sA ns g.ah).w v0)):
  wpS (Tf 40) lwC ([some (.d a0),some (.tag .digits),some (.tag .one),some (.d (.int g.pad)),some (.d (iL g.ah)),some (.d (iL g.be)),some (.d (.int g.b)),some (.tag .sink),none,none,none,none,none,none,none,none,none,none,none,none,none,none]) ((sA ns []).w v0) N R X:=
 Yh (ints_map _) (Z5 (Gj hg.ab) (M0.go (r:=40) (T:=g.ah) (m:=[]) (st:=(sA ns []).w v0) (s:=[]) ⟨bw _,ao hg.a3 (by decide)⟩ fun s h=>by
  have e:s=g.ah:=by have:=h.eq;rwa [bw] at this
  subst e
  exact q))
theorem AdQ(hn:ns.length≤63)(q:∀g v,IK.Ok g→N (lE a0 g g.ah r13) ((sA ns.tail g.ah).w v)):KU 40 tL (some (.d a0)::some (.tag .digits)::i8 20 none) {digits:=some ns} N:=
 Zr (ao hn (by decide)) (AdP (st:={digits:=some ns.tail}) fun g v hg=>AdN hg (q g v hg))
end
theorem E0{C:Cx}{p:PS}{env:Ev}{st:St}{N:Ev→St→Prop}{R:D→St→Prop}{X:Xp}(h:wpS C (Ye p) env st (fun env st=>wpS C (Z1 1 p) env st N R X) R X)(e:PS.seq (Ye p) (Z1 1 p)=p):wpS C p env st N R X:=e▸h
noncomputable abbrev wD(t:Th)(pad:Nat)(fs:List Nat):D:= .list (fs.map fun g=>iL (t.enc g pad))
section
variable{a0:D}{g:IK}{ns l w:List Int}{v0:Int}{N:Ev→St→Prop}{R:D→St→Prop}{X:Xp}{st:St}{k f:Nat}{t:Th}{fs gs:List Nat}
noncomputable abbrev r9(x9 x10 x11 x12 x13 x14:Option S)(x:Ev):Ev:=x9::x10::x11::x12::x13::x14::x
noncomputable abbrev kS(k:Nat):Option S:=some (.d (.int k))
theorem AaL(n k:Nat):((n:Int)+k).fmod 8=((n+k)%8:Nat):=by rw[xd _ (by decide)];rfl
theorem AdT{x10 x11 x12 x13 x14:Option S}{x:Ev}(q:∀(s:Nat) v,s<8→N (lE a0 g w (r9 (kS k) (kS s) x11 x12 x13 x14 x)) (st.w v)):wpS (Tf 40) (Ye cO) (lE a0 g w (r9 (kS k) x10 x11 x12 x13 x14 x)) (st.w v0) N R X:=
 Ph (r:=40) (m:=8) (by decide) fun n v hn=>by
  have:=q ((n+k)%8) v (Nat.mod_lt _ (by decide))
  rw[show kS ((n+k)%8)=some (.d (.int (((n:Int)+k).fmod 8))) by rw[AaL]] at this
  exact this
theorem AdV{s:Nat}(hs:s<8){x11 x12 x13 x14:Option S}{x:Ev}(q:∀(t:Th) v,t.Ok→t.sort=s→N (lE a0 g w (r9 (kS k) (kS s) (some (.d t.d)) x12 x13 x14 x)) (st.w v)):wpS (Tf 40) (Ye (Z1 1 cO)) (lE a0 g w (r9 (kS k) (kS s) x11 x12 x13 x14 x)) (st.w v0) N R X:=
 Ef (r:=36) hs fun t v h1 h2=>q t v h1 h2
theorem AdS(ht:t.Ok){x12 x13 x14:Option S}{x:Ev}(q:∀f fs,t.Fs f fs→N (lE a0 g w (r9 (kS k) (kS t.sort) (some (.d t.d)) (some (.d (wD t 0 (f::fs)))) x13 x14 x)) st):wpS (Tf 40) (Ye (Z1 2 cO)) (lE a0 g w (r9 (kS k) (kS t.sort) (some (.d t.d)) x12 x13 x14 x)) st N R X:=
 KO (r:=36) (pad:=0) ht fun f fs h=>q f fs h
theorem AdR(ht:t.Ok){x12 x13 x14:Option S}{x:Ev}(q:∀f fs,t.Fs f fs→N (lE a0 g w (r9 (kS k) (kS t.sort) (some (.d t.d)) x12 (some (.d (wD t g.pad (f::fs)))) x14 x)) st):wpS (Tf 40) (Ye (Z1 3 cO)) (lE a0 g w (r9 (kS k) (kS t.sort) (some (.d t.d)) x12 x13 x14 x)) st N R X:=
 KO (r:=36) ht fun f fs h=>q f fs h
noncomputable def IM(t:Th)(fs:List Nat)(j:Nat):Int × Int:=(((t.enc (fs.getD j 0) 0).map D.int).length,j)
theorem Nl{α β γ:Type}{f:β→Option γ}{g:α→β}{h:α→γ}(e:∀a,f (g a)=some (h a)):∀l:List α,reads f (l.map g)=some (l.map h)
 |[]=>rfl
 |a::l=>by
  show(f (g a)).bind (fun x=>(reads f (l.map g)).map (x:: ·))=_
  rw[e,Nl e l];rfl
theorem tQ{a c i:Nat}(h:a≤c):L8 ((a:Int),((0:Nat):Int)) ((c:Int),((i+1:Nat):Int))=true:=by
 show(decide ((a:Int)<c)||(decide ((a:Int)=c)&&decide ((0:Int)<((i+1:Nat):Int))))=true
 rw[decide_eq_true (p:=(0:Int)<((i+1:Nat):Int)) (by omega),Bool.and_true]
 rcases x6 h with h|h
 ·rw[decide_eq_true (p:=(a:Int)<c) (qd.mpr h)];rfl
 ·subst h;rw[decide_eq_true (p:=(a:Int)=a) rfl,u9]
theorem Nm(h:t.Fs f fs):S5 ((fu (f::fs).length).map (IM t (f::fs))):=by
 have hl:fs.length≤3:=by
  cases h with
  |rest _ _=>exact ie 3
  |data h=>cases h<;>decide
  |elem h=>cases h<;>decide
 refine⟨by rw[aq,gr];exact cj hl,?_,fun j h0 hj=> ?_⟩
 ·refine List.pairwise_map.mpr (List.nodup_range.imp fun h q=>h ?_)
  have:(_:Int)=_:=congrArg Prod.snd q
  exact A2U this
 ·rw[aq,gr] at hj
  have a:∀j,j<(f::fs).length→((fu (f::fs).length).map (IM t (f::fs))).getD j (0,0)=IM t (f::fs) j:=fun j hj=>by
   rw[e9,f9,vt hj];rfl
  rw[a 0 (ua h0 hj),a j hj]
  obtain⟨i,e⟩:∃i,j=i+1:=⟨j - 1,by omega⟩
  subst e
  obtain⟨c,hc⟩:∃c,fs[i]?=some c:=⟨_,dh (gg hj)⟩
  have m:=h.min.mem (ig hc)
  have e:(f::fs).getD (i+1) 0=c:=by rw[List.getD_cons_succ,e9,hc];rfl
  unfold IM
  rw[e,aq,aq]
  exact tQ m
theorem IL{n j:Nat}(h:j<n):Uz n (j:Int)=some j:=KQ ⟨iu _,qd.mpr h⟩
theorem E1{α:Type}{C:Cx}{elt:PE}{i:Nat}{env:Ev}{Q:List D→St→Prop}{f g:α→D}{P:α→Prop}(h:∀a,P a→∀k:Option D→St→Prop,k (some (g a)) st→Xu C elt (env.set i (some (.d (f a)))) st (fun v st=>RQ v fun v=>k (some v) st) To){l:List α}{acc:List D}(hl:All P l)(q:Q (acc++l.map g) st):
  Wf (fun env st k=>dB C .nil env st (fun b st=>Ka b (Xu C elt env st (fun v st=>RQ v fun v=>k (some v) st) To) (k none st) b) To) [i] (l.map f) env st acc Q:=comp_map (fun a ha k hk=>h a ha k hk) hl q
theorem AdU(h:t.Fs f fs){x13 x14 y1 y2 y3 y4 y5 y6 y7:Option S}(q:N (lE a0 g w (r9 (kS k) (kS t.sort) (some (.d t.d)) (some (.d (wD t 0 (f::fs)))) x13 (some (.d (iL (t.enc f 0)))) [y1,y2,y3,y4,y5,y6,y7])) st):wpS (Tf 40) (Ye (Z1 4 cO)) (lE a0 g w (r9 (kS k) (kS t.sort) (some (.d t.d)) (some (.d (wD t 0 (f::fs)))) x13 x14 [y1,y2,y3,y4,y5,y6,y7])) st N R X:=by
 have F:=Nm h
 have l4:(f::fs).length≤4:=by have:=F.le;rwa [aq,gr] at this
 refine Zr (n:=((f::fs).map fun g=>iL (t.enc g 0)).length) (by rw[aq];exact ao l4 (by decide)) (Zr (n:=(YO ((f::fs).map fun g=>iL (t.enc g 0)).length).length) (by rw[YO,aq,gr,aq];exact ao l4 (by decide))
  (E1 (P:=fun j=>j<(f::fs).length) (f:=fun j:Nat=> .int j) (g:=fun j=>pairD (IM t (f::fs) j)) (fun j hj K hK=> ?_) (by rw[aq];exact Nf) ?_))
 ·have hj':j<((f::fs).map fun g=>iL (t.enc g 0)).length:=by rw[aq];exact hj
  have e:((f::fs).map fun g=>iL (t.enc g 0))[j]?=some (iL (t.enc ((f::fs).getD j 0) 0)):=by rw[f9,e9,dh hj];rfl
  refine Yh (IL hj') ?_
  refine Yh e ?_
  exact hK
 ·rw[aq]
  refine Yh (Nl (f:=D.toPair) (g:=fun j=>pairD (IM t (f::fs) j)) (h:=IM t (f::fs)) (fun j=>rfl) _) ⟨F,fun qs hp hq=> ?_⟩
  have hd:∃tl,qs=((((t.enc f 0).map D.int).length:Int),((0:Nat):Int))::tl:=by
   have:qs.head?=some ((((t.enc f 0).map D.int).length:Int),((0:Nat):Int)):=by rw[hq,z7,f9,vt (by rw[jx];exact qb _)];rfl
   cases qs with
   |nil=>exact no this
   |cons a tl=>exact⟨tl,congrArg (· ::tl) (bh this)⟩
  obtain⟨tl,e⟩:=hd
  subst e
  refine Yh (IL (j:=0) (by rw[aq];exact qb _)) (Yh (a:=pairD _) rfl ?_)
  refine Yh (IL (n:=((f::fs).map fun g=>iL (t.enc g 0)).length) (j:=0) (qb _)) ?_
  exact q
end
section
variable{a0:D}{g:IK}{ns l w:List Int}{v0:Int}{N:Ev→St→Prop}{R:D→St→Prop}{X:Xp}{st:St}{k f f':Nat}{t:Th}{fs gs:List Nat}{n:Nat}
noncomputable abbrev tE(a0:D)(g:IK)(w:List Int)(k:Nat)(t:Th)(fs gs:List Nat)(f:Nat)(x:Ev):Ev:=lE a0 g w (r9 (kS k) (kS t.sort) (some (.d t.d)) (some (.d (wD t 0 fs))) (some (.d (wD t g.pad gs))) (some (.d (iL (t.enc f 0)))) x)
theorem AaN(h:t.Fs f fs){gs:List Nat}{x:Ev}(hw:Oc n w)(hn:n≤700)(q:N (tE a0 g (w++t.enc f 0) k t (f::fs) gs f x) ((sA l (w++t.enc f 0)).w v0)):wpS (Tf 40) (Z1 5 cO) (tE a0 g w k t (f::fs) gs f x) ((sA l w).w v0) N R X:=by
 have hm:t.Fm f:=by cases h.fm;assumption
 have ho:=hw.app (hm.oc (pad:=0))
 have e:(w++t.enc f 0).map D.int=w.map .int++(t.enc f 0).map .int:=bf
 rw[tE,lE,e] at q
 refine LD.lim (hw.ld.app (hm.oc (pad:=0)).ld) (ao (jm hn 210) (by decide)) ((sY h).go (r:=34) (T:=w++t.enc f 0) (m:=[]) (st:=(sA l []).w v0) ⟨by rw[bw],ao ho.le (ao (jm hn 210) (by decide))⟩ fun s h=> ?_)
 have e:s=w++t.enc f 0:=by have:=h.eq;rwa [bw] at this
 subst e
 exact q
theorem AaM{x10 x11 x12 x13 x14 y1 y2 y3 y4 y5 y6 y7:Option S}(hw:Oc n w)(hn:n≤700)(q:∀(t:Th) f f' fs gs v,t.Ok→t.Fs f fs→t.Fs f' gs→N (tE a0 g (w++t.enc f 0) k t (f::fs) (f'::gs) f [y1,y2,y3,y4,y5,y6,y7]) ((sA l (w++t.enc f 0)).w v)):
  wpS (Tf 40) cO (lE a0 g w (r9 (kS k) x10 x11 x12 x13 x14 [y1,y2,y3,y4,y5,y6,y7])) ((sA l w).w v0) N R X:=by
 refine E0 (AdT (st:=sA l w) fun s v hs=> ?_) rfl
 refine E0 (AdV (st:=sA l w) hs fun t v ht e=> ?_) rfl
 subst e
 exact E0 (AdS ht fun f fs h=>E0 (AdR ht fun f' gs h'=>E0 (AdU h (AaN h hw hn (q t f f' fs gs v ht h h'))) rfl) rfl) rfl
theorem Bg{r:Nat}{ls:List D}{O:List Int}{b b' e e' s:Int}{Q:D→St→Prop}(e1:ls=O.map .int)(e2:b=b')(e3:e=e')(hc:st.cur=none)(hb:All By O)(q:Rq (cx r) O b' e' s st Q):(Tf r).call 957 [.d (.list ls),.d (.int b),.d (.int e),.d (.int s)] st Q X:=by
 subst e1 e2 e3
 exact⟨Z5 (by rw[hc];rfl) (Yh (ints_map O) (Z5 (Gj hb) q))⟩
noncomputable abbrev tU(a0:D)(g:IK)(w:List Int)(k:Nat)(t:Th)(fs gs:List Nat)(f:Nat)(x15 x16 x17:Option S)(x:Ev):Ev:=tE a0 g w k t fs gs f (x15::x16::x17::x)
noncomputable def lwR:PS:=VD (Ye xU)
theorem gA{fs gs:List Nat}{x16 x17:Option S}{x:Ev}{p:Nat}(hg:g.Ok)(hf:t.Fm f')(q:∀d,N (tU a0 g w k t fs gs f (some (.d (iL (t.enc f' p)))) (some (.d d)) x17 x) ((sA l w).w v0)):
  wpS (Tf 40) lwR (tU a0 g w k t fs gs f (some (.d (iL (t.enc f' p)))) x16 x17 x) ((sA l w).w v0) N R X:=by
 have ho:=hf.oc (pad:=p)
 have ha:Oc 3 g.ah:=⟨hg.ab,hg.a3⟩
 have e:(g.ah.map D.int++(t.enc f' p).map .int)++g.be.map .int=(g.ah++(t.enc f' p++g.be)).map .int:=by rw[bf,bf,b8]
 refine LD.lim (ha.ld.app ho.ld) (by decide) (LD.lim ((ha.ld.app ho.ld).app hg.bb.oc.ld) (by decide) (Bg (r:=40) e hg.hb (by rw[e,aq]) rfl (hg.ab.app (ho.Vl.app hg.bb.all)) (IG (r:=23) hf ?_)))
 exact wj (wj (by rw[hg.hb,aq]) (fW _ _ _)) (q _)
inductive mE(t:Th):D→Prop
 |mk {f p:Nat} (h:t.Fm f):mE t (iL (t.enc f p))
theorem tV{fs gs:List Nat}{x17:Option S}{x:Ev}(hg:g.Ok)(q:∀x15 x16,N (tU a0 g w k t fs gs f (oS x15) (oS x16) x17 x) ((sA l w).w v0)):∀{items:List D} {x15 x16:Option D},All (mE t) items→
  XV (fun env st k=>wpS (Tf 40) lwR env st k R X) [15] items (tU a0 g w k t fs gs f (oS x15) (oS x16) x17 x) ((sA l w).w v0) N:=fun {items x15 x16} h=>by
 induction items generalizing x15 x16 with
 |nil=>exact q x15 x16
 |cons d items ih=>
  have hd:=h.un.a
  cases hd with
  |@mk f p hf=>exact gA hg hf fun d=>ih (x15:=some _) (x16:=some d) h.un.r
theorem fZ{c:Nat}{cs:List Nat}:∃b j,b∈c::cs∧∀h:Nat→D,Uz ((c::cs).map h).length (-1)=some j∧((c::cs).map h)[j]?=some (h b):=by
 refine⟨_,cs.length,yv (show cs.length<(c::cs).length from gp _),fun h=>⟨?_,?_⟩⟩
 ·rw[aq,jx]
  unfold Uz
  rw[show decide ((0:Int)≤ -1)=false from rfl]
  show(match decide (0≤((cs.length+1:Nat):Int)+ -1) with|true=>some (((cs.length+1:Nat):Int)+ -1).toNat|false=>none)=_
  rw[show((cs.length+1:Nat):Int)+ -1=cs.length from Int.add_neg_cancel_right cs.length 1,decide_eq_true (iu _)]
  rfl
 ·rw[f9,dh (show cs.length<(c::cs).length from gp _)];rfl
theorem tR{fs gs:List Nat}{x15 x16 x17:Option S}{x:Ev}(hg:g.Ok)(hf:All t.Fm (f'::gs))(q:∀d e v,N (tU a0 g w k t fs (f'::gs) f x15 (some (.d d)) (some (.d e)) x) ((sA l w).w v)):
  wpS (Tf 40) (Z1 1 xU) (tU a0 g w k t fs (f'::gs) f x15 x16 x17 x) ((sA l w).w v0) N R X:=by
 obtain⟨b,j,hb,last⟩:=fZ (c:=f') (cs:=gs)
 have hm:=hf.mem hb
 have ho:=hm.oc (pad:=g.pad)
 have ha:Oc 3 g.ah:=⟨hg.ab,hg.a3⟩
 have la:=last fun c=>iL (t.enc c g.pad)
 have e:g.ah.map D.int++(t.enc b g.pad).map D.int=(g.ah++t.enc b g.pad).map D.int:=bf.symm
 have e1:((t.enc b g.pad).map D.int).length=(t.enc b g.pad).length:=aq ..
 have e2:((g.ah.map D.int++(t.enc b g.pad).map D.int).length:Int)=(g.ah++t.enc b g.pad).length:=by rw[e,aq]
 have e3:((g.ah++t.enc b g.pad).length:Int)=g.ah.length+(t.enc b g.pad).length:=by rw[b4];rfl
 refine Yh la.1 ?_
 refine Yh la.2 (LD.lim (ha.ld.app ho.ld) (by decide) ?_)
 refine Yh la.1 ?_
 refine Yh la.2 ?_
 have h0:0<((t.enc b g.pad).map D.int).length:=by rw[e1];exact hm.pos
 refine Ph (r:=40) (st:=sA l w) h0 fun n v hn=>Bg (r:=40) e hg.hb rfl rfl (hg.ab.app ho.Vl) ?_
 rw[e2]
 rw[e1] at hn
 refine Bc (r:=23) hm (by omega) (by omega) (fR (r:=36) ?_)
 exact wj (wj (by rw[hg.hb]) rfl) (q _ _ _)
end
theorem Bj(t:Tag)(a:Option D):(!Rr t (oS a))=true:=by cases a<;>rfl
theorem mF(t:Tag)(l:List (Option D)):(l.map oS).all (fun o=> !Rr t o)=true:=by rw[List.all_map];exact Bd (Bj t)
theorem Bh:∀{l:List Int},l.all ZR=true→All By l
 |[],_=> .nil
 |a::l,h=> .cons (gj.mp h).1 (Bh (gj.mp h).2)
theorem gB:Xn.all (fun x=>x.2.1.all ZR&&nj x.2.1.length 8)=true:=by kernel_rfl
inductive TI(a0:D)(g:IK)(n:Nat):Ev→St→Prop
 |mk {w l:List Int} {v:Int} (x9 x10 x11 x12 x13 x14 x15 x16 x17 x18 x19 x20 x21:Option D) (hw:Oc n w) (hl:l.length≤63):TI a0 g n (lE a0 g w [oS x9,oS x10,oS x11,oS x12,oS x13,oS x14,oS x15,oS x16,oS x17,oS x18,oS x19,oS x20,oS x21]) ((sA l w).w v)
section
variable{a0:D}{g:IK}{ns l w:List Int}{v0:Int}{N:Ev→St→Prop}{R:D→St→Prop}{X:Xp}{st:St}{env:Ev}{k f f' n:Nat}{t:Th}{fs gs:List Nat}
theorem AdW{y1 y2:Option D}{y3 y4 y5 y6 y7:Option S}(hg:g.Ok)(h:t.Fs f fs)(h':t.Fs f' gs)(q:∀x15 x16 x17 v,N (tU a0 g w k t (f::fs) (f'::gs) f (oS x15) (oS x16) (oS x17) [y4,y5,y6,y7]) ((sA l w).w v)):
  wpS (Tf 40) xU (tE a0 g w k t (f::fs) (f'::gs) f [oS y1,oS y2,y3,y4,y5,y6,y7]) ((sA l w).w v0) N R X:=by
 have l4:(f'::gs).length≤4:=by have:=(Nm h').le;rwa [aq,gr] at this
 have hm:t.Fm f:=by cases h.fm;assumption
 refine E0 ?_ rfl
 refine LD.lim (n:=5) (x:=[iL (t.enc f 0)]++(f'::gs).map fun c=>iL (t.enc c g.pad)) ⟨by rw[b4,aq];exact d9 l4 1⟩ (by decide) (tV hg (fun x15 x16=>tR hg h'.fm fun d e v=>q x15 (some d) (some e) v) (.cons ⟨hm⟩ (h'.fm.map fun c hc=>⟨hc⟩)))
theorem turn(hg:g.Ok)(hn:n≤700)(h:TI a0 g n env st)(q:∀env st,TI a0 g (n+210) env st→N env st):KU 40 tK (env.set 9 (kS k)) st N:=by
 cases h with
 |@mk w l v x9 x10 x11 x12 x13 x14 x15 x16 x17 x18 x19 x20 x21 hw hl=>
  refine Zr (ao hl (by decide)) (Z5 (mF .one [x10,x11,x12,x13,x14,x15,x16,x17,x18,x19,x20,x21]) (AaM (l:=l.tail) hw hn fun t f f' fs gs v ht h h'=> ?_))
  have hm:t.Fm f:=by cases h.fm;assumption
  have ho:=hw.app (hm.oc (pad:=0))
  refine Zr (ao ho.le (ao (jm hn 210) (by decide))) (Yh rfl (Z5 rfl (Yh (ints_map _) ⟨⟨rfl,Gj ho.Vl⟩,AdW hg h h' fun x15 x16 x17 v=> ?_⟩)))
  exact q _ _ (.mk (some _) (some _) (some _) (some _) (some _) (some _) x15 x16 x17 x18 x19 x20 x21 ho (by rw[List.length_tail];exact ao (z4 _ _) hl))
theorem AdX(hg:g.Ok)(h:TI a0 g n env st):KU 40 tM env st fun env st=>wpS (Tf 40) lwG env st (fun _ _=>False) (fun v _=>v= .bool true) To:=by
 cases h with
 |@mk w l v x9 x10 x11 x12 x13 x14 x15 x16 x17 x18 x19 x20 x21 hw hl=>
  refine Zr (ao hl (by decide)) (Z5 (mF .one [x9,x10,x11,x12,x13,x14,x15,x16,x17,x18,x19,x20,x21]) (Ey (r:=39) (st:=sA l.tail w) fun x hx v=> ?_))
  have hb:=gj.mp (az.mp gB x hx)
  have ha:Oc 3 g.ah:=⟨hg.ab,hg.a3⟩
  have ho:Oc 8 x.2.1:=⟨Bh hb.1,cw hb.2⟩
  have e:g.ah.map D.int++x.2.1.map .int=(g.ah++x.2.1).map .int:=bf.symm
  refine LD.lim (ha.ld.app ho.ld) (by decide) (Bg (r:=40) e hg.hb (by rw[e,aq]) rfl (hg.ab.app ho.Vl) ?_)
  refine Bb (r:=28) hx hg.a1 hg.a3 ?_
  exact wj (wj (by rw[hg.hb]) rfl) rfl
theorem tW(a0:D)(ns:List Int)(hn:ns.length≤63):AaH 40 a0 ns:=
 AdQ hn fun g v hg=>turn (k:=0) (n:=3) hg (by decide) (.mk none none none none none none none none none none none none none ⟨hg.ab,hg.a3⟩ (by rw[List.length_tail];exact ao (z4 _ _) hn))
  fun env st h=>turn (k:=1) hg (by decide) h fun env st h=>turn (k:=2) hg (by decide) h fun env st h=>turn (k:=3) hg (by decide) h fun env st h=>AdX hg h
end
end
section
open PyProof.Rows PySem PySem.Calls PySem.SeqAt PySem.W
noncomputable def Bk:Nat→Addr
 |0=>239
 |1=>267
 |_=>211
noncomputable abbrev TY:Addr:=756
noncomputable abbrev MA:Addr:=686
noncomputable def AaS:List Str:=["octets","at","end","mode","table","offset","kind","inits","memory","place","name","sort","about"]
noncomputable def Yp(n:Nat):Str:=AaS.getD n "why"
noncomputable abbrev ZA(es:List dw)(n:Nat):Obj:=⟨.type "dict",none,.dict es.toArray n,#[]⟩
noncomputable abbrev Yy(C d:Addr):Obj:=⟨.ref C,some d,.plain,#[]⟩
noncomputable abbrev Zo(xs:Array aa)(n:Nat):Obj:=⟨.type "list",none,.seq xs n,#[]⟩
noncomputable abbrev TV(xs:Array aa)(n:Nat):Obj:=⟨.type "tuple",none,.seq xs n,#[]⟩
noncomputable abbrev Wc(b:Array UInt8):Obj:=⟨.type "bytearray",none,.bytearray b 0,#[]⟩
noncomputable abbrev Rt(b:Array UInt8):List Int:=b.toList.map fun u=>(u.toNat:Int)
inductive ZT(w:b3):List Str→List aa→List dw→Prop
 |nil:ZT w [] [] []
 |cons {n:Str} {ns:List Str} {v:aa} {vs:List aa} {es:List dw} (t:Tok):ZT w ns vs es→ZT w (n::ns) (v::vs) (⟨af w.params n,.str n t,v⟩::es)
mutual
inductive DR(w:b3)(ν:List Addr)(h:Heap):D→aa→Prop
 |none:DR w ν h .none .none
 |bool (b:Bool):DR w ν h (.bool b) (.bool b)
 |int (i:Int) (t:Tok):DR w ν h (.int i) (.int i t)
 |str (x:Str) (t:Tok):DR w ν h (.str x) (.str x t)
 |bytes (b:Array UInt8) (t:Tok):b.size≤YU→DR w ν h (.bytes (Rt b)) (.bytes b t)
 |tup {l:List D} {a:Addr} {xs:Array aa} {n:Nat}:h.get? a=some (TV xs n)→a∉ν→ZZ w ν h l xs.toList→xs.size≤YU→DR w ν h (.tup l) (.ref a)
 |list {l:List D} {a:Addr} {xs:Array aa} {n:Nat}:h.get? a=some (Zo xs n)→a∉ν→ZZ w ν h l xs.toList→xs.size≤YU→DR w ν h (.list l) (.ref a)
 |inst {c:Nat} {l:List D} {a d:Addr} {es:List dw} {n:Nat} {vs:List aa}:h.get? a=some (Yy (Bk c) d)→a∉ν→h.get? d=some (ZA es n)→d∉ν→
   ZT w ((fieldsOf c).map Yp) vs es→ZZ w ν h l vs→DR w ν h (.inst c l) (.ref a)
 |fn (f:Nat):DR w ν h (.fn f) (.ref f)
inductive ZZ(w:b3)(ν:List Addr)(h:Heap):List D→List aa→Prop
 |nil:ZZ w ν h [] []
 |cons {d:D} {l:List D} {v:aa} {vs:List aa}:DR w ν h d v→ZZ w ν h l vs→ZZ w ν h (d::l) (v::vs)
end
section
variable{w:b3}{ν ν':List Addr}{h h':Heap}
def Kp(ν ν':List Addr)(h h':Heap):Prop:=∀b o,h.get? b=some o→NF o→b∉ν→h'.get? b=some o∧b∉ν'
theorem Ym{vs:Array aa}{n:Nat}:NF (Zo vs n):=fun _ q=>nomatch q
theorem Bl{vs:Array aa}{n:Nat}:NF (TV vs n):=fun _ q=>nomatch q
theorem Vp{es:List dw}{n:Nat}:NF (ZA es n):=fun _ q=>nomatch q
theorem Qk{a d:Addr}:NF (Yy a d):=fun _ q=>nomatch q
theorem TX{b:Array UInt8}:NF (Wc b):=fun _ q=>nomatch q
theorem DR.mono(k:Kp ν ν' h h'){d:D}{v:aa}(x:DR w ν h d v):DR w ν' h' d v:=
 DR.rec (motive_1:=fun d v _=>DR w ν' h' d v) (motive_2:=fun l vs _=>ZZ w ν' h' l vs) .none .bool .int .str .bytes (fun e1 e2 _ z r=> .tup (k _ _ e1 Bl e2).1 (k _ _ e1 Bl e2).2 r z) (fun e1 e2 _ z r=> .list (k _ _ e1 Ym e2).1 (k _ _ e1 Ym e2).2 r z)
  (fun e1 e2 e3 e4 e5 _ r=> .inst (k _ _ e1 Qk e2).1 (k _ _ e1 Qk e2).2 (k _ _ e3 Vp e4).1 (k _ _ e3 Vp e4).2 e5 r) .fn .nil (fun _ _ a b=> .cons a b) x
inductive AaP(w:b3)(ν:List Addr)(h:Heap)(o:Array aa→Nat→Obj)(l:List D)(v:aa):Prop
 |mk (a:Addr) (xs:Array aa) (n:Nat) (e:v= .ref a) (g:h.get? a=some (o xs n)) (m:a∉ν) (r:ZZ w ν h l xs.toList) (z:xs.size≤YU)
inductive AaO(w:b3)(ν:List Addr)(h:Heap)(c:Nat)(l:List D)(v:aa):Prop
 |mk (a d:Addr) (es:List dw) (n:Nat) (vs:List aa) (e:v= .ref a) (g1:h.get? a=some (Yy (Bk c) d)) (m1:a∉ν) (g2:h.get? d=some (ZA es n)) (m2:d∉ν) (es:ZT w ((fieldsOf c).map Yp) vs es) (r:ZZ w ν h l vs)
inductive tX(l:List Int)(v:aa):Prop
 |mk (b:Array UInt8) (t:Tok) (e:v= .bytes b t) (q:Rt b=l) (z:b.size≤YU)
def AaR(w:b3)(ν:List Addr)(h:Heap):D→aa→Prop
 | .none,v=>v= .none
 | .bool b,v=>v= .bool b
 | .int i,v=>∃t,v= .int i t
 | .str x,v=>∃t,v= .str x t
 | .bytes l,v=>tX l v
 | .tup l,v=>AaP w ν h TV l v
 | .list l,v=>AaP w ν h Zo l v
 | .inst c l,v=>AaO w ν h c l v
 | .fn f,v=>v= .ref f
theorem DR.inv{d:D}{v:aa}(x:DR w ν h d v):AaR w ν h d v:=
 DR.casesOn (motive_1:=fun d v _=>AaR w ν h d v) x rfl (fun _=>rfl) (fun _ t=>⟨t,rfl⟩) (fun _ t=>⟨t,rfl⟩) (fun b t z=>⟨b,t,rfl,rfl,z⟩) (fun g m r z=>⟨_,_,_,rfl,g,m,r,z⟩) (fun g m r z=>⟨_,_,_,rfl,g,m,r,z⟩)
  (fun g1 m1 g2 m2 e r=>⟨_,_,_,_,_,rfl,g1,m1,g2,m2,e,r⟩) fun _=>rfl
theorem ZZ.mono(k:Kp ν ν' h h'){d:List D}{v:List aa}(x:ZZ w ν h d v):ZZ w ν' h' d v:=by
 induction d generalizing v with
 |nil=>cases x;exact .nil
 |cons d l ih=>cases x with|cons a r=>exact .cons (a.mono k) (ih r)
theorem ZZ.length{l:List D}{vs:List aa}(x:ZZ w ν h l vs):l.length=vs.length:=by
 induction l generalizing vs with
 |nil=>cases x;rfl
 |cons d l ih=>cases x with|cons _ r=>exact congrArg (· +1) (ih r)
theorem ZZ.size{l:List D}{xs:Array aa}(x:ZZ w ν h l xs.toList):l.length=xs.size:=x.length.trans ez
theorem ZZ.app{l m:List D}{vs us:List aa}(x:ZZ w ν h l vs)(y:ZZ w ν h m us):ZZ w ν h (l++m) (vs++us):=by
 induction l generalizing vs with
 |nil=>cases x;exact y
 |cons d l ih=>cases x with|cons a r=>exact .cons a (ih r)
inductive AaQ(w:b3)(ν:List Addr)(h:Heap)(vs:List aa)(i:Nat)(d:D):Prop
 |mk (v:aa) (e:vs[i]?=some v) (r:DR w ν h d v)
theorem ZZ.at{l:List D}{vs:List aa}{i:Nat}{d:D}(x:ZZ w ν h l vs)(e:l[i]?=some d):AaQ w ν h vs i d:=by
 induction l generalizing vs i with
 |nil=>cases e
 |cons b l ih=>cases x with
  |cons a r=>cases i with
   |zero=>cases e;exact⟨_,rfl,a⟩
   |succ i=>cases ih r e with|mk v e r=>exact⟨v,e,r⟩
theorem ZZ.tail{l:List D}{vs:List aa}(x:ZZ w ν h l vs):ZZ w ν h (l.drop 1) (vs.drop 1):=by
 cases x with
 |nil=>exact .nil
 |cons a r=>exact r
theorem ZZ.dropLast{l:List D}{vs:List aa}(x:ZZ w ν h l vs):ZZ w ν h l.dropLast vs.dropLast:=by
 induction l generalizing vs with
 |nil=>cases x;exact .nil
 |cons d l ih=>cases x with
  |cons a r=>cases r with
   |nil=>exact .nil
   |cons b r=>exact .cons a (ih (.cons b r))
theorem ZZ.reads{α:Type}{f:D→Option α}{R:List aa→List α→Prop}(h0:R [] [])(hc:∀d a v vs as,f d=some a→DR w ν h d v→R vs as→R (v::vs) (a::as)){l:List D}{as:List α}{vs:List aa}(e:reads f l=some as)(x:ZZ w ν h l vs):R vs as:=by
 induction l generalizing vs as with
 |nil=>cases x;cases e;exact h0
 |cons d l ih=>cases x with
  |cons a r=>exact YB e fun b bs q m g=>g▸hc _ _ _ _ _ q a (ih m r)
theorem ZZ.ints{l:List D}{ns:List Int}{vs:List aa}(e:YQ l=some ns)(x:ZZ w ν h l vs):qf vs ns:=
 ZZ.reads .nil (fun d a v vs as q r y=>(Tp q▸r:DR w ν h (.int a) v).inv.elim fun t e=>e▸ .cons _ _ y) e x
theorem ZZ.strs{l:List D}{ns:List Str}{vs:List aa}(e:Iq l=some ns)(x:ZZ w ν h l vs):StrsAre vs ns:=
 ZZ.reads .nil (fun d a v vs as q r y=>(Ga q▸r:DR w ν h (.str a) v).inv.elim fun t e=>e▸ .cons _ _ y) e x
theorem ZZ.ofInts{ns:List Int}{vs:List aa}(x:qf vs ns):ZZ w ν h (ns.map .int) vs:=by
 induction x with
 |nil=>exact .nil
 |cons n t r ih=>exact .cons (.int n t) ih
theorem DR.keeps{d:D}{v:aa}(x:DR w ν h d v)(k:∀b o,h.get? b=some o→h'.get? b=some o):DR w ν h' d v:=x.mono fun b o e _ n=>⟨k b o e,n⟩
theorem ZZ.keeps{d:List D}{v:List aa}(x:ZZ w ν h d v)(k:∀b o,h.get? b=some o→h'.get? b=some o):ZZ w ν h' d v:=x.mono fun b o e _ n=>⟨k b o e,n⟩
end
noncomputable abbrev pw:k9:=PySem.Challenge.pw_nm0161_01
structure Ad where
 digits:Option Addr:=none
 one:Option Addr:=none
 Np:Addr:=0
 V2:Option Addr:=none
 gE:Addr:=0
 O7:Option Addr:=none
noncomputable def YW(ρ:Ad):List Addr:=[ρ.digits,ρ.one,ρ.V2,ρ.O7].filterMap id
def O9(ρ:Ad):Tag→aa→Prop
 | .digits,v=>∃a,ρ.digits=some a∧v= .ref a
 | .one,v=>∃a,ρ.one=some a∧v= .ref a
 | .sink,v=>(∃a,ρ.V2=some a)∧v= .ref ρ.Np
 | .cur,v=>(∃a,ρ.O7=some a)∧v= .ref ρ.gE
inductive IP(ρ:Ad)(h:Heap)(l:List Int):Prop
 |mk (a:Addr) (vs:Array aa) (n:Nat) (e:ρ.digits=some a) (g:h.get? a=some (Zo vs n)) (r:qf vs.toList l)
inductive IQ(ρ:Ad)(h:Heap)(i:Int):Prop
 |mk (a:Addr) (t:Tok) (n:Nat) (e:ρ.one=some a) (g:h.get? a=some (Zo #[.int i t] n))
inductive U4(w:b3)(ν:List Addr)(ρ:Ad)(h:Heap)(l:List Int):Prop
 |mk (b d:Addr) (arr:Array UInt8) (es:List dw) (n:Nat) (e:ρ.V2=some b) (g1:h.get? ρ.Np=some (Yy TY d)) (n1:ρ.Np∉ν) (g2:h.get? d=some (ZA es n)) (n2:d∉ν)
  (r:ZT w ["octets"] [.ref b] es) (g3:h.get? b=some (Wc arr)) (q:Rt arr=l)
inductive O8(w:b3)(ν:List Addr)(ρ:Ad)(h:Heap)(l:List Int)(a e:Int):Prop
 |mk (d:Addr) (arr:Array UInt8) (t ta te:Tok) (es:List dw) (n:Nat) (e1:ρ.O7=some d) (g1:h.get? ρ.gE=some (Yy MA d)) (n1:ρ.gE∉ν) (g2:h.get? d=some (ZA es n))
  (r:ZT w ["octets","at","end"] [.bytes arr t,.int a ta,.int e te] es) (q:Rt arr=l) (z:arr.size≤YU)
structure V1(w:b3)(ν:List Addr)(ρ:Ad)(st:St)(h:Heap):Prop where
 digits:∀l,st.digits=some l→IP ρ h l
 one:∀i,st.one=some i→IQ ρ h i
 sink:∀l,st.sink=some l→U4 w ν ρ h l
 cur:∀l a e,st.cur=some (l,a,e)→O8 w ν ρ h l a e
 apart:∀a b,ρ.digits=some a→ρ.one=some b→a≠b
def Kv(ν:List Addr)(ρ:Ad)(h h':Heap):Prop:=∀b o,h.get? b=some o→NF o→(b∈ν→b∈YW ρ)→h'.get? b=some o
section
variable{w:b3}{ν ν':List Addr}{ρ:Ad}{h h':Heap}
theorem MB{a:Addr}{o:Option Addr}(e:o=some a)(m:o∈[ρ.digits,ρ.one,ρ.V2,ρ.O7]):a∈YW ρ:=su.mpr ⟨o,m,e⟩
theorem US{a:Addr}(e:ρ.digits=some a):a∈YW ρ:=MB e (.head _)
theorem Qm{a:Addr}(e:ρ.one=some a):a∈YW ρ:=MB e (.tail _ (.head _))
theorem WM{a:Addr}(e:ρ.V2=some a):a∈YW ρ:=MB e (.tail _ (.tail _ (.head _)))
theorem Ql{a:Addr}(e:ρ.O7=some a):a∈YW ρ:=MB e (.tail _ (.tail _ (.tail _ (.head _))))
theorem IP.kv{l:List Int}(x:IP ρ h l)(k:Kv ν ρ h h'):IP ρ h' l:=by cases x with|mk a vs n e g r=>exact⟨a,vs,n,e,k _ _ g Ym fun _=>US e,r⟩
theorem IQ.kv{i:Int}(x:IQ ρ h i)(k:Kv ν ρ h h'):IQ ρ h' i:=by cases x with|mk a t n e g=>exact⟨a,t,n,e,k _ _ g Ym fun _=>Qm e⟩
theorem U4.kv{l:List Int}(x:U4 w ν ρ h l)(k:Kv ν ρ h h'):U4 w ν ρ h' l:=by
 cases x with|mk b d arr es n e g1 n1 g2 n2 r g3 q=>exact⟨b,d,arr,es,n,e,k _ _ g1 Qk fun m=>absurd m n1,n1,k _ _ g2 Vp fun m=>absurd m n2,n2,r,k _ _ g3 TX fun _=>WM e,q⟩
theorem O8.kv{l:List Int}{a e:Int}(x:O8 w ν ρ h l a e)(k:Kv ν ρ h h'):O8 w ν ρ h' l a e:=by
 cases x with|mk d arr t ta te es n e1 g1 n1 g2 r q z=>exact⟨d,arr,t,ta,te,es,n,e1,k _ _ g1 Qk fun m=>absurd m n1,n1,k _ _ g2 Vp fun _=>Ql e1,r,q,z⟩
theorem V1.kv{st:St}(x:V1 w ν ρ st h)(k:Kv ν ρ h h'):V1 w ν ρ st h':=
 ⟨fun l e=>(x.digits l e).kv k,fun i e=>(x.one i e).kv k,fun l e=>(x.sink l e).kv k,fun l a e q=>(x.cur l a e q).kv k,x.apart⟩
theorem V1.keeps{st:St}(x:V1 w ν ρ st h)(k:∀b o,h.get? b=some o→h'.get? b=some o):V1 w ν ρ st h':=x.kv fun b o e _ _=>k b o e
theorem U4.YC{l:List Int}(x:U4 w ν ρ h l)(hv:∀b o,h.get? b=some o→b∉ν→b∉ν'):U4 w ν' ρ h l:=by
 cases x with|mk b d arr es n e g1 n1 g2 n2 r g3 q=>exact⟨b,d,arr,es,n,e,g1,hv _ _ g1 n1,g2,hv _ _ g2 n2,r,g3,q⟩
theorem O8.YC{l:List Int}{a e:Int}(x:O8 w ν ρ h l a e)(hv:∀b o,h.get? b=some o→b∉ν→b∉ν'):O8 w ν' ρ h l a e:=by
 cases x with|mk d arr t ta te es n e1 g1 n1 g2 r q z=>exact⟨d,arr,t,ta,te,es,n,e1,g1,hv _ _ g1 n1,g2,r,q,z⟩
theorem V1.YC{st:St}{h:Heap}(x:V1 w ν ρ st h)(hv:∀b o,h.get? b=some o→b∉ν→b∉ν'):V1 w ν' ρ st h:=
 ⟨x.digits,x.one,fun l e=>(x.sink l e).YC hv,fun l a e q=>(x.cur l a e q).YC hv,x.apart⟩
end
noncomputable def Sx(ce:Env)(lm cm:Str→Option aa)(x:Str):Option aa:=match ce.kindOf x with
 |some k=>match k with
  | .local=>lm x
  | .cell=>(ce.cells.lookup x).bind fun _=>cm x
  | .free=>(ce.cells.lookup x).bind fun _=>cm x
  |_=>none
 |none=>none
structure Cf where
 w:b3
 A:bz
 B:Heap
 ρ:Ad
 fr:List Env
 h0:Heap
 νf:List Addr
 ce:Env
 nm:List (Str × Nat)
 ex:List (D × aa):=[]
 kp:List (Addr × Obj):=[]
 L:Addr
 r:Nat
 os:b5
 wr:Bool:=true
noncomputable abbrev Cf.F(c:Cf):List Addr:=Uh c.fr
structure Cf.Ht(c:Cf)(h h':Heap):Prop where
 keep:∀b o,h.get? b=some o→NF o→b∉YW c.ρ→b∉c.F→h'.get? b=some o
 VE:∀b o,h.get? b=some o→NF o→b∉YW c.ρ→∃sl,h'.get? b=some {o with slots:=sl}
 live:∀b o,h.get? b=some o→NF o→∃o',h'.get? b=some o'∧NF o'
 stays:c.B.StaysIn h→c.B.StaysIn h'
def Cf.Al(c:Cf)(h h':Heap):Prop:=∀b o,h.get? b=some o→b∉YW c.ρ→b∉c.F→h'.get? b=some o
structure Cf.Go(c:Cf)(s s':ai):Prop where
 h:c.Ht s.heap s'.heap
 os:s'.os=s.os
 gens:s'.gens=s.gens
 al:c.Al s.heap s'.heap
noncomputable abbrev Cf.M(c:Cf):o8:=model pw c.w
def RG(h:Heap)(a:Addr):Prop:=h.get? a=none
structure WK(c:Cf)(ν:List Addr)(a:Addr):Prop where
 ν:a∈ν
 f:a∉c.νf
 h0:RG c.h0 a
 v:a∉YW c.ρ
 F:a∉c.F
inductive AdZ(c:Cf)(ν:List Addr)(h:Heap)(l:List D)(cv:aa):Prop
 |mk (a:Addr) (xs:Array aa) (n:Nat) (e:cv= .ref a) (g:h.get? a=some (Zo xs n)) (r:ZZ c.w ν h l xs.toList) (z:xs.size≤YU) (m:WK c ν a)
inductive AaT(c:Cf)(ν:List Addr)(h:Heap)(l:List Int)(cv:aa):Prop
 |mk (a:Addr) (arr:Array UInt8) (e:cv= .ref a) (g:h.get? a=some (Wc arr)) (r:Rt arr=l) (z:arr.size≤YU) (m:WK c ν a)
def Cf.SR(c:Cf)(ν:List Addr)(h:Heap):S→aa→Prop
 | .d v,cv=>DR c.w ν h v cv
 | .tag t,cv=>O9 c.ρ t cv
 | .own l,cv=>AdZ c ν h l cv
 | .X4 l,cv=>AaT c ν h l cv
structure KV(c:Cf)(h:Heap)(a:Addr)(o:Option aa):Prop where
 is:h.IsCell a o
 v:a∉YW c.ρ
 F:a∉c.F
 f:c.wr=true→a∈c.νf
 h0:c.wr=true→RG c.h0 a
inductive gF(c:Cf)(ν:List Addr)(h:Heap)(lm cm:Str→Option aa)(x:Str)(sv:S):Prop
 |mk (cv:aa) (e:Sx c.ce lm cm x=some cv) (r:c.SR ν h sv cv)
structure Nn(c:Cf)(ν:List Addr)(env:Ev)(h:Heap)(lm cm:Str→Option aa):Prop where
 ns:h.Ns c.ce.locals lm
 cell:∀n a,c.ce.cells.lookup n=some a→KV c h a (cm n)
 SQ:c.ce.locals∉YW c.ρ
 lν:c.ce.locals∈c.νf
 l0:RG c.h0 c.ce.locals
 val:∀x i sv,c.nm.lookup x=some i→env[i]?=some (some sv)→gF c ν h lm cm x sv
 KW:∀x y i j sv sv' cv,c.nm.lookup x=some i→c.nm.lookup y=some j→env[i]?=some (some sv)→env[j]?=some (some sv')→ZO sv=true→ZO sv'=true→
  Sx c.ce lm cm x=some cv→Sx c.ce lm cm y=some cv→i=j
inductive mH(c:Cf)(ν:List Addr)(env:Ev)(h:Heap):Prop
 |mk (lm cm:Str→Option aa) (f:Nn c ν env h lm cm)
structure mG(ν:List Addr)(h:Heap)(p:Addr × Obj):Prop where
 e:h.get? p.1=some p.2
 n:p.1∉ν
structure Cf.I(c:Cf)(ν:List Addr)(env:Ev)(st:St)(s:ai):Prop where
 base:Sz c.w c.B
 lim:c.B.NoLimit
 seer:c.B.NoSeer
 stays:c.B.StaysIn s.heap
 νB:∀a∈ν,c.B.get? a=none
 frames:s.heap.FunFrames c.B c.fr
 str:V1 c.w ν c.ρ st s.heap
 VE:mH c ν env s.heap
 fν:∀a∈c.νf,a∈ν
 SP:∀a∈YW c.ρ,a∈c.νf
 JR:∀a∈c.F,a∈c.νf
 JS:∀a∈c.F,a∉YW c.ρ
 live:∀a∈ν,∃o,s.heap.get? a=some o∧NF o
 gens:s.gens= #[]
 Ws:∀p∈c.ex,DR c.w ν s.heap p.1 p.2
 X6:∀p∈c.kp,mG ν s.heap p
 sin:c.Ht c.h0 s.heap
 os:s.os=c.os
 al:c.Al c.h0 s.heap
section
variable{c:Cf}{ν ν':List Addr}{env env':Ev}{st st':St}{s s' s'':ai}{h h' h'':Heap}
theorem Cf.Ht.refl(c:Cf)(h:Heap):c.Ht h h:=⟨fun _ _ e _ _ _=>e,fun _ o e _ _=>⟨o.slots,e⟩,fun _ o e n=>⟨o,e,n⟩,fun k=>k⟩
theorem Cf.Ht.trans(x:c.Ht h h')(y:c.Ht h' h''):c.Ht h h'':=
 ⟨fun b o e n h1 h2=>y.keep b o (x.keep b o e n h1 h2) n h1 h2,fun b o e n h1=>(x.VE b o e n h1).elim fun sl e1=>(y.VE b {o with slots:=sl} e1 n h1).elim fun sl' e2=>⟨sl',e2⟩,
  fun b o e n=>(x.live b o e n).elim fun o1 h=>y.live b o1 h.1 h.2,fun k=>y.stays (x.stays k)⟩
theorem Cf.Ht.of_keeps(k:∀b o,h.get? b=some o→h'.get? b=some o):c.Ht h h':=⟨fun b o e _ _ _=>k b o e,fun b o e _ _=>⟨o.slots,k b o e⟩,fun b o e n=>⟨o,k b o e,n⟩,fun x b o e=>k b o (x b o e)⟩
theorem Cf.Al.trans(x:c.Al h h')(y:c.Al h' h''):c.Al h h'':=fun b o e v f=>y b o (x b o e v f) v f
theorem Cf.Go.refl(c:Cf)(s:ai):c.Go s s:=⟨.refl c _,rfl,rfl,fun _ _ e _ _=>e⟩
theorem Cf.Go.trans(x:c.Go s s')(y:c.Go s' s''):c.Go s s'':=⟨x.h.trans y.h,y.os.trans x.os,y.gens.trans x.gens,x.al.trans y.al⟩
theorem Cf.Go.of_keeps{t:Nat}(k:∀b o,s.heap.get? b=some o→h'.get? b=some o):c.Go s {s with heap:=h',toks:=t}:=⟨.of_keeps k,rfl,rfl,fun b o e _ _=>k b o e⟩
theorem Cf.Go.toks(t:Nat):c.Go s {s with toks:=t}:= .of_keeps fun _ _ e=>e
theorem TZ{a:Addr}{m:Str→Option aa}(x:h.Ns a m):∃o,h.get? a=some o∧NF o:=x.elim fun o x=>x.elim fun es x=>x.elim fun ep x=>⟨o,x.1,fun vs q=>nomatch x.2.1.symm.trans q⟩
theorem WL{a:Addr}{m:Str→Option aa}(x:h.Ns a m)(k:∀o,h.get? a=some o→NF o→∃sl,h'.get? a=some {o with slots:=sl}):h'.Ns a m:=
 x.elim fun o x=>x.elim fun es x=>x.elim fun ep x=>(k o x.1 fun vs q=>nomatch x.2.1.symm.trans q).elim fun sl hs=>⟨_,es,ep,hs,x.2⟩
theorem Wq{B:Heap}{l:List Env}(x:h.FunFrames B l)(k:∀L∈Uh l,∀o,h.get? L=some o→NF o→∃o',h'.get? L=some o'∧NF o'):h'.FunFrames B l:=by
 induction l with
 |nil=>trivial
 |cons env rest ih=>
  obtain⟨hk,⟨L,o,hf,hn,ho,hd⟩,hr⟩:=x
  have e:Uh (env::rest)=L::Uh rest:=by rw[Uh,rz,hf]
  rw[e] at k
  exact(k L (.head _) o ho hd).elim fun o' q=>⟨hk,⟨L,o',hf,hn,q.1,q.2⟩,ih hr fun L' hL'=>k L' (.tail _ hL')⟩
theorem Cf.I.volν(x:c.I ν env st s):∀a∈YW c.ρ,a∈ν:=fun a h=>x.fν a (x.SP a h)
theorem Cf.I.frν(x:c.I ν env st s):∀a∈c.F,a∈ν:=fun a h=>x.fν a (x.JR a h)
theorem Cf.I.kn(x:c.I ν env st s)(y:c.Ht s.heap h'):Kp ν ν s.heap h':=fun b o e n hb=>⟨y.keep b o e n (fun q=>hb (x.volν b q)) fun q=>hb (x.frν b q),hb⟩
structure LB(o:Obj):Prop where
 nf:NF o
 d:∀es n,o.data≠.dict es n
 c:∀v,o.data≠.cell v
theorem G8{xs:Array aa}{n:Nat}:LB (Zo xs n):=⟨Ym,fun _ _ q=>(nomatch q),fun _ q=>(nomatch q)⟩
theorem mJ{xs:Array UInt8}:LB (Wc xs):=⟨TX,fun _ _ q=>(nomatch q),fun _ q=>(nomatch q)⟩
theorem SR.kp{sv:S}{cv:aa}(x:c.SR ν h sv cv)(k:Kp ν ν' h h')(m:∀a o,h.get? a=some o→LB o→WK c ν a→h'.get? a=some o)(sub:∀a∈ν,a∈ν'):c.SR ν' h' sv cv:=by
 cases sv with
 |d v=>exact DR.mono k x
 |tag t=>exact x
 |own l=>cases x with|mk a xs n e g r z q=>exact⟨a,xs,n,e,m _ _ g G8 q,r.mono k,z,sub _ q.ν,q.f,q.h0,q.v,q.F⟩
 |X4 l=>cases x with|mk a arr e g r z q=>exact⟨a,arr,e,m _ _ g mJ q,r,z,sub _ q.ν,q.f,q.h0,q.v,q.F⟩
theorem SR.go{sv:S}{cv:aa}(x:c.SR ν s.heap sv cv)(i:c.I ν env st s)(y:c.Go s s'):c.SR ν s'.heap sv cv:=SR.kp x (i.kn y.h) (fun a o g n q=>y.h.keep a o g n.nf q.v q.F) fun _ h=>h
theorem KV.to{a:Addr}{o:Option aa}(x:KV c h a o)(k:∀b,h.get? a=some b→NF b→h'.get? a=some b):KV c h' a o:=⟨x.is.elim fun o h=>⟨o,k o h.1 (fun vs q=>nomatch h.2.symm.trans q),h.2⟩,x.v,x.F,x.f,x.h0⟩
theorem Nn.to{lm cm:Str→Option aa}(f:Nn c ν env s.heap lm cm)(k:Kp ν ν' s.heap h')(y:c.Ht s.heap h')(sub:∀a∈ν,a∈ν'):Nn c ν' env h' lm cm:=
 ⟨WL f.ns fun o ho hn=>y.VE _ _ ho hn f.SQ,fun n a e=>(f.cell n a e).to fun b g n=>y.keep _ _ g n (f.cell _ a e).v (f.cell _ a e).F,f.SQ,f.lν,f.l0,fun a i' sv e1 e2=>match f.val a i' sv e1 e2 with|⟨cv,e,r⟩=>⟨cv,e,SR.kp r k (fun a o g n q=>y.keep a o g n.nf q.v q.F) sub⟩,f.KW⟩
theorem Nn.go{lm cm:Str→Option aa}(f:Nn c ν env s.heap lm cm)(i:c.I ν env st s)(y:c.Ht s.heap h'):Nn c ν env h' lm cm:=f.to (i.kn y) y fun _ h=>h
structure AdY(h h':Heap)(a:Addr):Prop where
 n:h.get? a=none
 e:∃o,h'.get? a=some o∧NF o
theorem Cf.I.to(x:c.I ν env st s)(y:c.Ht s.heap s'.heap)(o:s'.os=s.os)(g:s'.gens=s.gens)(z:V1 c.w ν' c.ρ st' s'.heap)(k:∀p∈c.kp,mG ν' s'.heap p)(l:c.Al c.h0 s'.heap)(sub:∀a∈ν,a∈ν')(new:∀a∈ν',a∈ν∨AdY s.heap s'.heap a):c.I ν' env st' s':=
 have kp:Kp ν ν' s.heap s'.heap:=fun b o e n hb=>⟨(x.kn y b o e n hb).1,fun q=>(new b q).elim hb fun w=>Zj w.n e rfl⟩
 ⟨x.base,x.lim,x.seer,y.stays x.stays,fun a h=>(new a h).elim (x.νB a) fun w=>by
   cases e:c.B.get? a with
   |none=>rfl
   |some o=>exact absurd rfl (Zj w.n (x.stays a o e)),Wq x.frames fun L hL o ho hn=>y.live L o ho hn,z,
  match x.VE with|⟨lm,cm,f⟩=>⟨lm,cm,f.to kp y sub⟩,
  fun a h=>sub a (x.fν a h),x.SP,x.JR,x.JS,fun a ha=>(new a ha).elim (fun ha=>(x.live a ha).elim fun o h=>y.live a o h.1 h.2) fun w=>w.e,g.trans x.gens,fun p hp=>(x.Ws p hp).mono kp,k,x.sin.trans y,o.trans x.os,l⟩
theorem Cf.I.ht(x:c.I ν env st s)(y:c.Ht s.heap s'.heap)(o:s'.os=s.os)(g:s'.gens=s.gens)(z:V1 c.w ν c.ρ st' s'.heap)(k:∀p∈c.kp,mG ν s'.heap p)(l:c.Al c.h0 s'.heap):c.I ν env st' s':=x.to y o g z k l (fun _ h=>h) fun _=> .inl
theorem Cf.I.go(x:c.I ν env st s)(y:c.Go s s')(z:V1 c.w ν c.ρ st' s'.heap):c.I ν env st' s':=
 x.ht y.h y.os y.gens z (fun p hp=>⟨y.al _ _ (x.X6 p hp).e (fun q=>(x.X6 p hp).n (x.volν _ q)) fun q=>(x.X6 p hp).n (x.frν _ q),(x.X6 p hp).n⟩) (x.al.trans y.al)
def KS(s s':ai):Prop:=∃h' t,s'={s with heap:=h',toks:=t}∧(∀b o,s.heap.get? b=some o→h'.get? b=some o)
theorem KS.refl(s:ai):KS s s:=⟨s.heap,s.toks,rfl,fun _ _ e=>e⟩
theorem KS.tok(s:ai)(t:Nat):KS s {s with toks:=t}:=⟨s.heap,t,rfl,fun _ _ e=>e⟩
theorem KS.push(s:ai)(o:Obj)(t:Nat):KS s {s with heap:=s.heap.push o,toks:=t}:=⟨_,t,rfl,fun _ _ e=>au o e⟩
theorem KS.VN(s:ai)(o:Obj):KS s {s with heap:=s.heap.push o}:=KS.push s o s.toks
theorem KS.go(x:KS s s'):c.Go s s':=x.elim fun h' x=>x.elim fun t x=>x.1.symm▸ .of_keeps x.2
theorem KS.keeps(x:KS s s'):∀b o,s.heap.get? b=some o→s'.heap.get? b=some o:=x.elim fun h' x=>x.elim fun t x=>x.1.symm▸x.2
theorem KS.trans(x:KS s s')(y:KS s' s''):KS s s'':=x.elim fun h' x=>x.elim fun t x=>y.elim fun h'' y=>y.elim fun t' y=>⟨h'',t',y.1.trans (by rw[x.1]),fun b o e=>y.2 b o (by rw[x.1];exact x.2 b o e)⟩
theorem Cf.I.ks(x:c.I ν env st s)(y:KS s s'):c.I ν env st s':=x.go y.go (x.str.keeps y.keeps)
theorem Cf.I.SO{t:Nat}(i:c.I ν env st s)(k:∀b o,s.heap.get? b=some o→h'.get? b=some o):c.I ν env st {s with heap:=h',toks:=t}:=i.go (.of_keeps k) (i.str.keeps k)
theorem DR.shrink{w:b3}{d:D}{v:aa}(x:DR w ν h d v)(k:∀a∈ν',a∈ν):DR w ν' h d v:=x.mono fun b o e _ hb=>⟨e,fun q=>hb (k b q)⟩
theorem ZZ.shrink{w:b3}{d:List D}{v:List aa}(x:ZZ w ν h d v)(k:∀a∈ν',a∈ν):ZZ w ν' h d v:=x.mono fun b o e _ hb=>⟨e,fun q=>hb (k b q)⟩
inductive IS(c:Cf)(ν:List Addr)(h:Heap)(cv:aa):S→Prop
 |mk {sv:S} (r:c.SR ν h sv cv) (o:ZO sv=false):IS c ν h cv sv
theorem IT{sv sv':S}{cv:aa}(x:c.SR ν h sv cv)(k:∀a∈c.νf,a∈ν)(e:NT (some sv)=some sv'):IS c c.νf h cv sv':=by
 cases sv with
 |d v=>cases e;exact⟨DR.shrink x k,rfl⟩
 |tag t=>cases e;exact⟨x,rfl⟩
 |own l=>cases e;cases x with|mk a xs n e g r z m=>cases e;exact⟨DR.list g m.f (r.shrink k) z,rfl⟩
 |X4 l=>exact no e
theorem E2{i:Nat}{sv':S}(e:(freeze env)[i]?=some (some sv')):∃sv,env[i]?=some (some sv)∧NT (some sv)=some sv':=by
 unfold freeze at e
 rw[f9] at e
 obtain⟨o,e1,e2⟩:=bk.mp e
 cases o with
 |none=>exact no e2
 |some sv=>exact⟨sv,e1,e2⟩
theorem IS.r{cv:aa}{sv:S}(x:IS c ν h cv sv):c.SR ν h sv cv:=by cases x;assumption
theorem IS.o{cv:aa}{sv:S}(x:IS c ν h cv sv):ZO sv=false:=by cases x;assumption
theorem gF.freeze{lm cm:Str→Option aa}{x:Str}{j:Nat}{sv':S}(f:Nn c ν env h lm cm)(k:∀a∈c.νf,a∈ν)(hx:c.nm.lookup x=some j)(hj:(freeze env)[j]?=some (some sv')):∃cv,Sx c.ce lm cm x=some cv∧IS c c.νf h cv sv':=
 (E2 hj).elim fun sv q=>match f.val x j sv hx q.1 with|⟨cv,e,r⟩=>⟨cv,e,IT r k q.2⟩
theorem Cf.I.freeze(i:c.I ν env st s):c.I c.νf (freeze env) st s:=
 ⟨i.base,i.lim,i.seer,i.stays,fun a h=>i.νB a (i.fν a h),i.frames,i.str.YC fun b o e hb hb'=>hb (i.fν b hb'),
  match i.VE with|⟨lm,cm,f⟩=>⟨lm,cm,f.ns,f.cell,f.SQ,f.lν,f.l0,fun x j sv' hx hj=>(gF.freeze f i.fν hx hj).elim fun cv q=>⟨cv,q.1,q.2.r⟩,
   fun x y j k sv sv' cv hx hy hj hk ho=>(gF.freeze f i.fν hx hj).elim fun cv q=>nomatch q.2.o.symm.trans ho⟩,
  fun a h=>h,i.SP,i.JR,i.JS,fun a h=>i.live a (i.fν a h),i.gens,fun p hp=>DR.shrink (i.Ws p hp) i.fν,fun p hp=>⟨(i.X6 p hp).e,fun q=>(i.X6 p hp).n (i.fν _ q)⟩,i.sin,i.os,i.al⟩
end
inductive ExcAt(w:b3)(od:Obj)(YY:Str)(at_:Int):Prop
 |mk (es:List dw) (n:Nat) (t ta:Tok) (e:od=ZA es n) (r:ZT w ["why","at"] [.str YY t,.int at_ ta] es)
structure Cf.Ok(c:Cf):Prop where
 frames:c.A.frames=some c.fr
 handled:c.A.handled=none
 head:∃fenv outer,c.fr=fenv::outer∧fenv.frame=some c.L∧fenv.scope.isGenerator=false∧fenv.scope.isCoroutine=false∧fenv.builtins=builtinsNs∧fenv.globals=mainGlobals
 frame:c.ce.frame=some c.L
 Qn:∀x y a,c.ce.cells.lookup x=some a→c.ce.cells.lookup y=some a→x=y
 Sb:∀x,c.ce.kindOf x=some .cell→(c.ce.cells.lookup x).isSome=true
 slots:∀x y i,c.nm.lookup x=some i→c.nm.lookup y=some i→x=y
 kind:c.ce.scope.kind= .function
 globals:c.ce.globals=mainGlobals
 builtins:c.ce.builtins=builtinsNs
 depth:c.A.depth+6*c.r+100<1000
 units:c.A.units+40*c.r<9000
inductive Cf.RX(c:Cf)(X:Xp)(ev:aa)(s':ai):Prop
 |mk (e:Addr) (k:Nat) (YY:Str) (at_:Int) (st':St) (od:Obj) (d:Addr) (fl:Option aa) (ee:ev= .ref e) (x:X k YY at_ st') (exc:Exc c.B c.F e k od d fl s'.heap) (ok:fl=none∨fl=some .none∨fl=some (rawInt c.L))
  (ex:ExcAt c.w od YY at_) (str:V1 c.w c.νf c.ρ st' s'.heap) (stays:c.B.StaysIn s'.heap) (fr:s'.heap.FunFrames c.B c.fr) (h:c.Ht c.h0 s'.heap) (os:s'.os=c.os) (gens:s'.gens= #[]) (ns:∃lm,s'.heap.Ns c.ce.locals lm)
inductive Sa(c:Cf)(ν:List Addr)(env:Ev)(Q:S→St→Prop)(s₀:ai)(cv:aa)(s:ai):Prop
 |mk (sv:S) (st:St) (q:Q sv st) (r:c.SR ν s.heap sv cv) (i:c.I ν env st s) (g:c.Go s₀ s)
inductive Bm(c:Cf)(ν:List Addr)(env:Ev)(Q:Bool→St→Prop)(s₀:ai)(b:Bool)(s:ai):Prop
 |mk (st:St) (q:Q b st) (i:c.I ν env st s) (g:c.Go s₀ s)
inductive SS(c:Cf)(ν:List Addr)(h:Heap):List S→List aa→Prop
 |nil:SS c ν h [] []
 |cons {a:S} {l:List S} {v:aa} {vs:List aa}:c.SR ν h a v→SS c ν h l vs→SS c ν h (a::l) (v::vs)
inductive Aea(c:Cf)(ν:List Addr)(env:Ev)(Q:List S→St→Prop)(s₀:ai)(cvs:List aa)(s:ai):Prop
 |mk (svs:List S) (st:St) (q:Q svs st) (r:SS c ν s.heap svs cvs) (i:c.I ν env st s) (g:c.Go s₀ s)
def G9(c:Cf)(ν:List Addr)(env:Ev)(t:Sem aa)(Q:S→St→Prop)(X:Xp)(s:ai):Prop:=Zh c.M c.A t (Sa c ν env Q s) (c.RX X) s
def mK(c:Cf)(ν:List Addr)(env:Ev)(t:Sem Bool)(Q:Bool→St→Prop)(X:Xp)(s:ai):Prop:=Zh c.M c.A t (Bm c ν env Q s) (c.RX X) s
def OkL(c:Cf)(ν:List Addr)(env:Ev)(t:Sem (List aa))(Q:List S→St→Prop)(X:Xp)(s:ai):Prop:=Zh c.M c.A t (Aea c ν env Q s) (c.RX X) s
section
variable{c:Cf}{ν:List Addr}{env:Ev}{st:St}{s s' s₀:ai}{X X':Xp}{E:aa→ai→Prop}
theorem G9.then{t:Sem aa}{Q:S→St→Prop}{R:aa→ai→Prop}(h:G9 c ν env t Q X s)(k:∀sv cv st' s',Q sv st'→c.SR ν s'.heap sv cv→c.I ν env st' s'→c.Go s s'→R cv s'):Zh c.M c.A t R (c.RX X) s:=
 Zi h (fun cv s' x=>match x with|⟨sv,st',q,r,i,g⟩=>k sv cv st' s' q r i g) fun _ _ e=>e
theorem mK.then{t:Sem Bool}{Q:Bool→St→Prop}{R:Bool→ai→Prop}(h:mK c ν env t Q X s)(k:∀b st' s',Q b st'→c.I ν env st' s'→c.Go s s'→R b s'):Zh c.M c.A t R (c.RX X) s:=
 Zi h (fun b s' x=>match x with|⟨st',q,i,g⟩=>k b st' s' q i g) fun _ _ e=>e
theorem OkL.then{t:Sem (List aa)}{Q:List S→St→Prop}{R:List aa→ai→Prop}(h:OkL c ν env t Q X s)(k:∀svs cvs st' s',Q svs st'→SS c ν s'.heap svs cvs→c.I ν env st' s'→c.Go s s'→R cvs s'):Zh c.M c.A t R (c.RX X) s:=
 Zi h (fun cvs s' x=>match x with|⟨svs,st',q,r,i,g⟩=>k svs cvs st' s' q r i g) fun _ _ e=>e
theorem Sa.from{Q:S→St→Prop}{cv:aa}(g:c.Go s₀ s)(x:Sa c ν env Q s cv s'):Sa c ν env Q s₀ cv s':=by cases x with|mk sv st q r i g'=>exact⟨sv,st,q,r,i,g.trans g'⟩
theorem Bm.from{Q:Bool→St→Prop}{b:Bool}(g:c.Go s₀ s)(x:Bm c ν env Q s b s'):Bm c ν env Q s₀ b s':=by cases x with|mk st q i g'=>exact⟨st,q,i,g.trans g'⟩
theorem G9.from{t:Sem aa}{Q:S→St→Prop}(g:c.Go s₀ s)(h:G9 c ν env t Q X s):Zh c.M c.A t (Sa c ν env Q s₀) (c.RX X) s:=Zi h (fun _ _ x=>x.from g) fun _ _ e=>e
theorem mK.from{t:Sem Bool}{Q:Bool→St→Prop}(g:c.Go s₀ s)(h:mK c ν env t Q X s):Zh c.M c.A t (Bm c ν env Q s₀) (c.RX X) s:=Zi h (fun _ _ x=>x.from g) fun _ _ e=>e
inductive tY(c:Cf)(ν:List Addr)(K:D→Prop)(s:ai)(cv:aa)(s':ai):Prop
 |mk (d:D) (k:K d) (r:DR c.w ν s'.heap d cv) (g:KS s s')
structure Pr(c:Cf)(A:bz):Prop where
 f:A.frames=some c.fr
 h:A.handled=none
 d:A.depth+100<1000
 u:A.units<9500
def Prim(c:Cf)(ν:List Addr)(t:Sem aa)(K:D→Prop)(s:ai):Prop:=∀A E,Pr c A→wpAny c.M A t (tY c ν K s) E s
theorem Cf.Ok.pr(ok:c.Ok):Pr c c.A:=⟨ok.frames,ok.handled,bq (jm (br _ _) _) ok.depth,bq (br _ _) (ua ok.units (by decide))⟩
theorem Prim.use{t:Sem aa}{K:D→Prop}{R:aa→ai→Prop}(hp:Prim c ν t K s)(ok:c.Ok)(i:c.I ν env st s)(k:∀d cv s',K d→DR c.w ν s'.heap d cv→c.I ν env st s'→c.Go s s'→R cv s'):Zh c.M c.A t R E s:=
 up (o4 (hp c.A E ok.pr) (fun cv s' x=>match x with|⟨d,h1,h2,h3⟩=>k d cv s' h1 h2 (i.ks h3) h3.go) fun _ _ e=>e)
theorem Prim.out{t:Sem aa}{Q:S→St→Prop}(hp:Prim c ν t (fun d=>Q (.d d) st) s)(ok:c.Ok)(i:c.I ν env st s)(g:c.Go s₀ s):Zh c.M c.A t (Sa c ν env Q s₀) E s:=
 hp.use ok i fun d cv s' q r i g'=>⟨.d d,st,q,r,i,g.trans g'⟩
set_option tactic.hygienic true in
theorem gH{x:Int}{n:Nat}(h:x.natAbs<2^n):A0h x≤n:=by
 unfold A0h
 split
 ·exact ie _
 ·rename_i hx
  exact(Nat.log2_lt fun e=>hx (by simpa using Int.natAbs_eq_zero.mp e)).mpr h
theorem KX{A:bz}(i:c.I ν env st s)(ok:c.Ok)(p:Pr c A):PylongRoom c.M A s:=by
 refine aj fun hn=> ?_
 obtain⟨fenv,outer,e,hL,g1,g2,g3,g4⟩:=ok.head
 exact hn (PylongRoom.of (i.lim.keeps i.stays) (bq (d9 (by decide) _) p.d) (SeerAt.of (i.seer.keeps i.stays) (by kernel_rfl) (p.f.trans (congrArg some e)) g1 g2 g3 g4))
theorem both{a b:Bool}(h:(a&&b)=true):a=true∧b=true:=gj.mp h
theorem gG{op:qx}{x y:Int}{t u:Tok}{K:D→Prop}(i:c.I ν env st s)(ok:c.Ok)(h:intOp op x y K):Prim c ν (wu op (.int x t) (.int y u)) K s:=fun A E p=>by
 have o:∀{d:D} {v:aa} {k:Nat},K d→DR c.w ν s.heap d v→tY c ν K s v {s with toks:=k}:=fun h r=>⟨_,h,r,KS.tok _ _⟩
 cases op with
 |Add=>exact PyProof.Rows.add_int (o h (.int _ _))
 |Sub=>exact sub_int' (o h (.int _ _))
 |Mult=>exact PyProof.Rows.mul_int (o (Zk h).2 (.int _ _)) (IntMulOk.of_left (ao (gH (of_decide_eq_true (Zk h).1)) (by decide)))
 |FloorDiv=>exact floordiv_int (of_decide_eq_true (Zk h).1) (o (Zk h).2 (.int _ _)) (.inr (KX i ok p))
 |Mod=>exact mod_int' (of_decide_eq_true (Zk h).1) (o (Zk h).2 (.int _ _))
 |Pow=>
  have q:=both (Zk h).1
  have q2:=both q.2
  exact pow_int_small (of_decide_eq_true q.1) (ja (of_decide_eq_true q2.1) (by decide)) (bq (of_decide_eq_true q2.2) (by decide)) (o (Zk h).2 (.int _ _))
 |LShift=>
  have q:=both (Zk h).1
  have q2:=both q.2
  exact lshift_int_small (of_decide_eq_true q.1) (ja (of_decide_eq_true q2.1) (by decide)) (ua (of_decide_eq_true q2.2) (by decide)) (o (Zk h).2 (.int _ _))
 |RShift=>exact rshift_int (of_decide_eq_true (Zk h).1) (o (Zk h).2 (.int _ _))
 |BitAnd=>exact and_int (o h (.int _ _))
 |BitOr=>exact or_int (o h (.int _ _))
 |MatMult=>exact False.elim h
 |Div=>exact False.elim h
 |BitXor=>exact False.elim h
end
theorem ff{P:Prop}(h:false=true):P:=nomatch h
theorem GB{a b:Array UInt8}(h:Rt a=Rt b):a=b:=Array.toList_inj.mp (List.map_inj_right (f:=fun u:UInt8=>(u.toNat:Int)) (fun x y e=>UInt8.toNat_inj.mp (A2U e))|>.mp h)
section
variable{w:b3}{ν:List Addr}{A:bz}{s:ai}
theorem all_range{n:Nat}:(fu n).all (fun _=>true)=true:=az.mpr fun _ _=>rfl
def xW(w:b3)(ν:List Addr)(s:ai)(n:Nat):Prop:=∀(d:D) (va vb:aa) (A:bz),d.Yb n=true→DR w ν s.heap d va→DR w ν s.heap d vb→A.units+n<cLine→EqAt A s va vb true
theorem IU{n:Nat}{l:List D}{xs ys:Array aa}(ih:xW w ν s n)(e:l.all (D.Yb n)=true)(h3:ZZ w ν s.heap l xs.toList)(g3:ZZ w ν s.heap l ys.toList)(hu:A.units+(n+1)<cLine):
  ∀j (h1:j<xs.size) (h2:j<ys.size),EqAt A.in1 s xs[j] ys[j] true:=by
 intro j j1 j2
 have hl:j<l.length:=h3.size.symm▸j1
 cases h3.at (dh hl) with
 |mk v v1 v2=>cases g3.at (dh hl) with
  |mk u u1 u2=>
   rw[fq,ru j1] at v1
   rw[fq,ru j2] at u1
   cases v1;cases u1
   exact ih _ _ _ A.in1 (az.mp e _ (yv hl)) v2 u2 ((show A.in1.units+n=A.units+(n+1) from Nat.add_right_comm ..)▸hu)
theorem Bo{l:List D}{xs ys:Array aa}(h3:ZZ w ν s.heap l xs.toList)(g3:ZZ w ν s.heap l ys.toList):xs.size=ys.size:=h3.size.symm.trans g3.size
theorem mL{xs ys:Array aa}(h:xs.size=ys.size):((fu (min xs.size ys.size)).all (fun _=>true)&&xs.size==ys.size)=true:=by rw[all_range,h];exact beq_self_eq_true _
theorem GA{l:List D}{a b:Addr}{xs ys:Array aa}{n m k:Nat}(ih:xW w ν s k)(e:l.all (D.Yb k)=true)(h1:s.heap.get? a=some (TV xs n))(h2:s.heap.get? b=some (TV ys m))(h3:ZZ w ν s.heap l xs.toList)(g3:ZZ w ν s.heap l ys.toList)
  (hu:A.units+(k+1)<cLine):RcAt A s (.ref a) (.ref b) true:=by
 have:=RcAt.tuples (A:=A) (s:=s) (l:=a) (b:=b) (items:=xs) (items2:=ys) (e:=fun _=>true) ⟨_,h1,rfl,_,rfl⟩ ⟨_,h2,rfl,_,rfl⟩ (bq (br _ _) hu) (IU ih e h3 g3 hu)
 rwa [mL (Bo h3 g3)] at this
theorem Bp{l:List D}{a b:Addr}{xs ys:Array aa}{n m k:Nat}(ih:xW w ν s k)(e:l.all (D.Yb k)=true)(h1:s.heap.get? a=some (Zo xs n))(h2:s.heap.get? b=some (Zo ys m))(h3:ZZ w ν s.heap l xs.toList)(g3:ZZ w ν s.heap l ys.toList)
  (hu:A.units+(k+1)<cLine):RcAt A s (.ref a) (.ref b) true:=
 all_range (n:=xs.size)▸RcAt.lists (A:=A) (s:=s) (l:=a) (b:=b) (items:=xs) (items2:=ys) (e:=fun _=>true) ⟨_,h1,rfl,_,rfl⟩ ⟨_,h2,rfl,_,rfl⟩ (Bo h3 g3) (bq (br _ _) hu) (IU ih e h3 g3 hu)
theorem GG{n:Nat}(ih:∀m,n=m+1→xW w ν s m):xW w ν s n:=by
 intro d va vb A h x y hu
 have y:=y.inv
 cases x with
 |none=>exact(y:vb=_)▸ .same _
 |int i t=>exact y.elim fun u e=>e▸(beq_self_eq_true i)▸EqAt.int_int i _ i _
 |str i t=>exact y.elim fun u e=>e▸(beq_self_eq_true i)▸EqAt.str_str i _ i _
 |bytes x t hz=>cases y with
  |mk z u e q hz'=>cases GB q;exact e▸fun prog w E Q h=>eqBool_bytes (by simpa using h)
 |tup h1 h2 h3 h4=>cases y with
  |mk b ys m e g1 g2 g3 g4=>
   cases n with
   |zero=>exact ff h
   |succ n=>exact e▸if q:_=b then q▸ .same _ else .of_refs q (GA (ih n rfl) h h1 g1 h3 g3 hu)
 |list h1 h2 h3 h4=>cases y with
  |mk b ys m e g1 g2 g3 g4=>
   cases n with
   |zero=>exact ff h
   |succ n=>exact e▸if q:_=b then q▸ .same _ else .of_refs q (Bp (ih n rfl) h h1 g1 h3 g3 hu)
 |_=>cases n<;>exact ff h
theorem AaU(n:Nat):xW w ν s n:=by
 induction n with
 |zero=>exact GG fun m q=>nomatch q
 |succ n ih=>exact GG fun m q=>u5 q▸ih
theorem AaV{l:List D}{va vb:aa}(h:(D.tup l).Yb 8=true)(x:DR w ν s.heap (.tup l) va)(y:DR w ν s.heap (.tup l) vb)(hu:A.units<9500):RcAt A s va vb true:=
 match x.inv,y.inv with|⟨a,xs,n,e,h1,_,h3,_⟩,⟨b,ys,m,e',g1,_,g3,_⟩=>e▸e'▸GA (AaU 7) h h1 g1 h3 g3 (gv (A02 hu 8) (by decide))
theorem gI{l:List D}{va vb:aa}(h:(D.tup l).Yb 8=true)(x:DR w ν s.heap (.tup l) va)(y:DR w ν s.heap (.tup l) vb)(hu:A.units<9500):RcNeAt A s va vb false:=
 match x.inv,y.inv with
 |⟨a,xs,n,e,h1,_,h3,_⟩,⟨b,ys,m,e',g1,_,g3,_⟩=>
  have k:=RcNeAt.tuples (A:=A) (s:=s) (l:=a) (b:=b) (items:=xs) (items2:=ys) (e:=fun _=>true) ⟨_,h1,rfl,_,rfl⟩ ⟨_,g1,rfl,_,rfl⟩ (ua hu (by decide)) (IU (AaU 7) h h3 g3 (gv (A02 hu 8) (by decide)))
  e▸e'▸(mL (Bo h3 g3)▸k:RcNeAt A s (.ref a) (.ref b) (!true))
end
theorem Wt{a:S}{K:D→Prop}{P:Prop}(h:RQ a K)(k:∀d,a= .d d→K d→P):P:=by cases a with|d v=>exact k v rfl h|_=>exact False.elim h
theorem Sd{a:S}{K:Tag→Prop}{P:Prop}(h:LZ a K)(k:∀t,a= .tag t→K t→P):P:=by cases a with|tag v=>exact k v rfl h|_=>exact False.elim h
theorem GL{v:D}{K:Int→Prop}{P:Prop}(h:sI v K)(k:∀x,v= .int x→K x→P):P:=by cases v with|int x=>exact k x rfl h|_=>exact False.elim h
theorem gJ{v:D}{K:Str→Prop}{P:Prop}(h:Aai v K)(k:∀x,v= .str x→K x→P):P:=by cases v with|str x=>exact k x rfl h|_=>exact False.elim h
theorem gK{v:D}{K:List D→Prop}{P:Prop}(h:Aau v K)(k:∀x,v= .tup x→K x→P):P:=by cases v with|tup x=>exact k x rfl h|_=>exact False.elim h
theorem GJ{v:D}{K:List D→Prop}{P:Prop}(h:dD v K)(k:∀x,v= .list x→K x→P):P:=by cases v with|list x=>exact k x rfl h|_=>exact False.elim h
theorem gN{v:D}{K:List Int→Prop}{P:Prop}(h:Aam v K)(k:∀x,v= .bytes x→K x→P):P:=by cases v with|bytes x=>exact k x rfl h|_=>exact False.elim h
section
variable{c:Cf}{ν:List Addr}{env:Ev}{st:St}{s s':ai}{X:Xp}{a b:S}{va vb:aa}
theorem Z7{K:Int→Prop}{P:aa→Prop}(h:ZK a K)(r:c.SR ν s.heap a va)(k:∀x t,a= .d (.int x)→K x→P (.int x t)):P va:=
 Wt h fun d e h=>GL h fun x q h=>by cases e;cases q;exact r.inv.elim fun t e=>e▸k x t rfl h
theorem Se{K:Str→Prop}{P:aa→Prop}(h:onStr a K)(r:c.SR ν s.heap a va)(k:∀x t,K x→P (.str x t)):P va:=
 Wt h fun d e h=>gJ h fun x q h=>by cases e;cases q;exact r.inv.elim fun t e=>e▸k x t h
theorem WQ{K:List D→Prop}{P:Prop}(h:OO a K)(r:c.SR ν s.heap a va)(k:∀x,K x→DR c.w ν s.heap (.tup x) va→P):P:=
 Wt h fun d e h=>gK h fun x q h=>by cases e;cases q;exact k x h r
theorem XI{K:List D→Prop}{P:Prop}(h:V0 a K)(r:c.SR ν s.heap a va)(k:∀x,K x→DR c.w ν s.heap (.list x) va→P):P:=
 Wt h fun d e h=>GJ h fun x q h=>by cases e;cases q;exact k x h r
theorem WO{K:D→Prop}{P:Prop}(h:RQ a K)(r:c.SR ν s.heap a va)(k:∀d,K d→DR c.w ν s.heap d va→P):P:=Wt h fun d e h=>by cases e;exact k d h r
theorem WN(i:c.I ν env st s):s.heap.objs.size∉ν:=fun h=>(i.live _ h).elim fun _ e=>kj _ (gq e.1)
theorem KY(hn:s.heap.objs.size∉ν){l:List D}{xs:Array aa}(r:ZZ c.w ν s.heap l xs.toList)(hz:xs.size≤YU)(t:Nat):DR c.w ν ({s with heap:=s.heap.push (Zo xs 0),toks:=t}:ai).heap (.list l) (.ref s.heap.objs.size):=
 .list (b9 _ rfl) hn (r.keeps fun _ _ e=>au _ e) hz
theorem GH(hn:s.heap.objs.size∉ν){l:List D}{xs:Array aa}(r:ZZ c.w ν s.heap l xs.toList)(hz:xs.size≤YU)(t:Nat):DR c.w ν ({s with heap:=s.heap.push (TV xs 0),toks:=t}:ai).heap (.tup l) (.ref s.heap.objs.size):=
 .tup (b9 _ rfl) hn (r.keeps fun _ _ e=>au _ e) hz
theorem Pk{x y:List D}{xs ys:Array aa}(h:ZZ c.w ν s.heap x xs.toList)(g:ZZ c.w ν s.heap y ys.toList)(hz:(x++y).length≤YU):xs.size+ys.size≤YU:=by rwa [b4,h.size,g.size] at hz
theorem GK{x y:List D}{xs ys:Array aa}(h:ZZ c.w ν s.heap x xs.toList)(g:ZZ c.w ν s.heap y ys.toList):ZZ c.w ν s.heap (x++y) (xs++ys).toList:=by rw[vz];exact h.app g
theorem Bq{x:List D}{xs:Array aa}(h:ZZ c.w ν s.heap x xs.toList)(e:xs.isEmpty=true):x=[]:=om.mp (h.size.trans (Array.isEmpty_iff_size_eq_zero.mp e))
theorem Br{x y:List D}{K:D→Prop}(i:c.I ν env st s)(ha:DR c.w ν s.heap (.list x) va)(hb:DR c.w ν s.heap (.list y) vb)(hz:(x++y).length≤YU)(h:K (.list (x++y))):Prim c ν (wu .Add va vb) K s:=fun A E p=>
 match ha.inv,hb.inv with
 |⟨a,xs,n,e,h1,_,h3,_⟩,⟨b,ys,m,e',g1,_,g3,_⟩=>
  have z:=Pk h3 g3 hz
  e▸e'▸P.add_list h1 g1 ⟨_,h,KY (WN i) (GK h3 g3) (qt▸z) _,KS.VN s _⟩ z
theorem gO{x y:List D}{K:D→Prop}(i:c.I ν env st s)(ha:DR c.w ν s.heap (.tup x) va)(hb:DR c.w ν s.heap (.tup y) vb)(hz:(x++y).length≤YU)(h:K (.tup (x++y))):Prim c ν (wu .Add va vb) K s:=fun A E p=>
 match ha.inv,hb.inv with
 |⟨a,xs,n,e,h1,m1,h3,z1⟩,⟨b,ys,m,e',g1,m2,g3,z2⟩=>
  have z:=Pk h3 g3 hz
  e▸e'▸if e1:xs.isEmpty=true then
    concat_meets ⟨_,h1,rfl⟩ ⟨_,g1,rfl⟩ noFill_tuple_add seq_tuple_add PySem.F.slot_tuple_add PySem.F.entry_tuple_add (PySem.F.args_tuple_add_2 _ _) (tuple_addW0 a b xs ys n m none none #[] #[] e1) ⟨h1,g1,⟨_,h,by rw[Bq h3 e1];exact .tup g1 m2 g3 z2,KS.refl s⟩⟩
   else if e2:ys.isEmpty=true then
    concat_meets ⟨_,h1,rfl⟩ ⟨_,g1,rfl⟩ noFill_tuple_add seq_tuple_add PySem.F.slot_tuple_add PySem.F.entry_tuple_add (PySem.F.args_tuple_add_2 _ _) (tuple_addW1 a b xs ys n m none none #[] #[] e1 e2) ⟨h1,g1,⟨_,h,by rw[Bq g3 e2,bw];exact .tup h1 m1 h3 z1,KS.refl s⟩⟩
   else P.add_tuple h1 g1 e1 e2 ⟨_,h,GH (WN i) (GK h3 g3) (qt▸z) _,KS.VN s _⟩ z
theorem Pj{op:qx}{K:Prop}{P:qx→Prop}(h:Gg op K)(k:K→P .Add):P op:=by cases op with|Add=>exact k h|_=>exact False.elim h
theorem uA{op:qx}{K:D→Prop}(i:c.I ν env st s)(ok:c.Ok)(ha:c.SR ν s.heap a va)(hb:c.SR ν s.heap b vb)(h:Ea op a b K):Prim c ν (wu op va vb) K s:=
 Wt h fun v e h=>by
  cases e
  cases v with
  |int x=>exact(DR.inv ha).elim fun t e=>e▸Z7 (P:=fun vb=>Prim c ν (wu op _ vb) K s) h hb fun y u _ h=>gG i ok h
  |list x=>exact XI h hb fun y h hb=>Pj (P:=fun op=>Prim c ν (wu op va vb) K s) h fun h=>Br i ha hb (Yv h).1 (Yv h).2
  |tup x=>exact WQ h hb fun y h hb=>Pj (P:=fun op=>Prim c ν (wu op va vb) K s) h fun h=>gO i ha hb (Yv h).1 (Yv h).2
  |_=>exact False.elim h
theorem Pn{A:bz}{E:aa→ai→Prop}{R:Bool→ai→Prop}{K:Bool→Prop}(ha:c.SR ν s.heap a va)(h:Q8 a K)(hR:∀b,K b→R b s):wpAny c.M A (truthy va) R E s:=
 Wt h fun v e h=>by
  cases e
  have ha:=DR.inv ha
  cases v with
  |bool b=>exact(ha:va=_)▸wpAny_truthy_bool (hR _ h)
  |int x=>exact ha.elim fun t e=>e▸PyProof.Rows.truthy_int (hR _ h)
  |none=>exact(ha:va=_)▸bg (hR _ h)
  |_=>exact False.elim h
theorem tZ{K:D→Prop}(ha:c.SR ν s.heap a va)(h:ZK a fun x=>K (.int (-x))):Prim c ν (unaryOp .USub va) K s:=
 Z7 (P:=fun va=>Prim c ν (unaryOp .USub va) K s) h ha fun x t _ h A E p=>PyProof.Rows.neg_int ⟨_,h,.int _ _,KS.tok _ _⟩
inductive KB(K:Bool→Prop):D→Prop
 |mk {b:Bool}:K b→KB K (.bool b)
theorem kb{K:Bool→Prop}{b r:Bool}(e:b=r)(h:K r):tY c ν (KB K) s (.bool b) s:=e▸⟨.bool r,.mk h,.bool r,KS.refl s⟩
end
section
variable{c:Cf}{ν:List Addr}{env:Ev}{st:St}{s s':ai}{X:Xp}{a b:S}{va vb:aa}
theorem Aed(x y:Int):(x==y)=decide (x=y):=rfl
theorem Aeb(x y:Int):(x !=y)= !decide (x=y):=rfl
theorem Aec(x y:Str):(x !=y)= !sEq x y:=congrArg (!·) (Cb x y)
theorem GN{d:D}{v:aa}{w:b3}{h:Heap}(x:DR w ν h d v):(v==ny)=d.isNone:=
 DR.casesOn (motive_1:=fun d v _=>(v==ny)=d.isNone) x rfl (fun _=>rfl) (fun _ _=>rfl) (fun _ _=>rfl) (fun _ _ _=>rfl) (fun _ _ _ _=>rfl) (fun _ _ _ _=>rfl) (fun _ _ _ _ _ _=>rfl) fun _=>rfl
abbrev Cm(c:Cf)(ν:List Addr)(op:qw)(s:ai)(K:Bool→Prop)(va vb:aa):Prop:=Prim c ν (jl op va vb) (KB K) s
theorem AaX{K:Bool→Prop}(ha:c.SR ν s.heap a va)(hb:c.SR ν s.heap b vb)(h:isS a b K):Cm c ν .Is s K va vb:=fun A E p=>
 WO h hb fun u h hb=>by
  cases u with
  |none=>exact(DR.inv hb:vb=_)▸WO (Zk h).2 ha fun v h ha=>yj (kb (GN ha) h)
  |_=>exact ff (Zk h).1
theorem Bt{K:Bool→Prop}(ha:c.SR ν s.heap a va)(hb:c.SR ν s.heap b vb)(h:isS a b fun r=>K (!r)):Cm c ν .IsNot s K va vb:=fun A E p=>
 WO h hb fun u h hb=>by
  cases u with
  |none=>exact(DR.inv hb:vb=_)▸WO (Zk h).2 ha fun v h ha=>PyProof.Rows.isnot_none_gen (kb (congrArg (!·) (GN ha)) h)
  |_=>exact ff (Zk h).1
theorem AaW{K:Bool→Prop}(ha:c.SR ν s.heap a va)(hb:c.SR ν s.heap b vb)(h:eqS a b K):Cm c ν .Eq s K va vb:=fun A E p=>
 Wt h fun v e h=>by
  cases e
  cases v with
  |int x=>exact(DR.inv ha).elim fun t e=>e▸Z7 (P:=fun vb=>wpAny c.M A (jl .Eq _ vb) _ _ _) h hb fun y u _ h=>PyProof.Rows.eq_int (kb (Aed x y) h)
  |str x=>exact(DR.inv ha).elim fun t e=>e▸Se (P:=fun vb=>wpAny c.M A (jl .Eq _ vb) _ _ _) h hb fun y u h=>PyProof.Rows.eq_str (kb (Cb x y) h)
  |tup x=>exact WQ h hb fun y h hb=>match h with|⟨⟨e,q⟩,h⟩=>AaV q ha (e▸hb) p.u _ _ E _ (kb rfl h)
  |_=>exact False.elim h
theorem IW{K:Bool→Prop}(ha:c.SR ν s.heap a va)(hb:c.SR ν s.heap b vb)(h:eqS a b fun r=>K (!r)):Cm c ν .NotEq s K va vb:=fun A E p=>
 Wt h fun v e h=>by
  cases e
  cases v with
  |int x=>exact(DR.inv ha).elim fun t e=>e▸Z7 (P:=fun vb=>wpAny c.M A (jl .NotEq _ vb) _ _ _) h hb fun y u _ h=>PyProof.Rows.ne_int (kb (Aeb x y) h)
  |str x=>exact(DR.inv ha).elim fun t e=>e▸Se (P:=fun vb=>wpAny c.M A (jl .NotEq _ vb) _ _ _) h hb fun y u h=>PyProof.Rows.ne_str (kb (Aec x y) h)
  |tup x=>exact WQ h hb fun y h hb=>match h with|⟨⟨e,q⟩,h⟩=>gI q ha (e▸hb) p.u _ _ E _ (kb rfl h)
  |_=>exact False.elim h
theorem gP{l:List D}{n:Nat}(z:l.length=n):decide (n≠0)= !l.isEmpty:=by subst z;cases l<;>rfl
theorem Nq{A:bz}{E:aa→ai→Prop}{a b:Addr}{xs ys:Array aa}{n m:Nat}{Q:aa→ai→Prop}(h1:s.heap.get? a=some (Zo xs n))(h2:s.heap.get? b=some (Zo ys m))(e:ys.size=0)
  (hu:A.units<9500) (h:Q (.bool (decide (xs.size≠0))) s):wpAny c.M A (jl .NotEq (.ref a) (.ref b)) Q E s:=by
 have hu:A.units<cLine:=ua hu (by decide)
 by_cases hz:xs.size=0
 ·rw[decide_eq_false (not_not_intro hz)] at h
  have:=RcNeAt.lists (A:=A) (s:=s) (l:=a) (b:=b) (items:=xs) (items2:=ys) (e:=fun _=>true) ⟨_,h1,rfl,_,rfl⟩ ⟨_,h2,rfl,_,rfl⟩ (hz.trans e.symm) hu (fun j j1 j2=>absurd (e▸j2) (vn _))
  rw[all_range] at this
  exact this _ _ E Q h
 ·rw[decide_eq_true hz] at h
  exact RcNeAt.lists_lengths (A:=A) (s:=s) (l:=a) (b:=b) (items:=xs) (items2:=ys) ⟨_,h1,rfl,_,rfl⟩ ⟨_,h2,rfl,_,rfl⟩ (by rw[e];simp [hz]) hu _ _ E Q h
theorem Bs{K:Bool→Prop}{l:List D}{x:Addr}{xs:Array aa}{n:Nat}(g:s.heap.get? x=some (Zo xs n))(r:ZZ c.w ν s.heap l xs.toList)(hb:c.SR ν s.heap b vb)(h:V0 b fun y=>W2 y.isEmpty (K (!l.isEmpty))):Cm c ν .NotEq s K (.ref x) vb:=fun A E p=>
 XI h hb fun y h hb=>match hb.inv with
  |⟨y',ys,m,e,g1,_,g3,_⟩=>e▸Nq g g1 (g3.size.symm.trans (om.mpr (b6.mp (Zk h).1))) p.u (kb (gP r.size) (Zk h).2)
theorem AaZ{K:Bool→Prop}(ha:c.SR ν s.heap a va)(hb:c.SR ν s.heap b vb)(h:neS a b K):Cm c ν .NotEq s K va vb:=by
 cases a with
 |tag _=>exact False.elim h
 |X4 _=>exact False.elim h
 |own l=>cases ha with|mk x xs n e g r=>exact e▸Bs g r hb h
 |d v=>cases v with
  |list l=>exact match DR.inv ha with|⟨x,xs,n,e,g,_,r,_⟩=>e▸Bs g r hb h
  |int _=>exact IW ha hb h
  |str _=>exact IW ha hb h
  |tup _=>exact IW ha hb h
  |_=>exact False.elim h
structure uB(A:bz)(s:ai)(l:List D)(vs:List aa):Prop where
 any:vs.any (fun v=>v==ny)=l.any D.isNone
 at_:∀v∈vs,EqAt A s v .none (v==ny)
theorem IV{A:bz}{l:List D}{vs:List aa}(x:ZZ c.w ν s.heap l vs)(e:l.all D.Ug=true):uB A s l vs:=by
 induction l generalizing vs with
 |nil=>cases x;exact⟨rfl,fun _ h=>nomatch h⟩
 |cons d l ih=>cases x with
  |cons a r=>
   have i:=ih r (both e).2
   have e:=(both e).1
   cases a with
   |none=>exact⟨rfl,nr.mpr ⟨EqAt.same _,i.at_⟩⟩
   |int n t=>exact⟨i.any,nr.mpr ⟨EqAt.int_none n t,i.at_⟩⟩
   |_=>exact ff e
theorem AaY{K:Bool→Prop}(ha:c.SR ν s.heap a va)(hb:c.SR ν s.heap b vb)(h:inS a b K):Cm c ν .In s K va vb:=fun A E p=>
 Wt h fun v e h=>by
  cases e
  cases v with
  |int x=>exact WQ h hb fun y h hb=>Zw h fun ns q h=>match DR.inv ha,hb.inv with|⟨t,e⟩,⟨y,ys,m,e',g1,_,g3,_⟩=>e▸e'▸in_tuple_ints ⟨_,g1,rfl,_,rfl⟩ (g3.ints q) (kb rfl h)
  |str x=>exact WQ h hb fun y h hb=>Zw h fun ns q h=>match DR.inv ha,hb.inv with|⟨t,e⟩,⟨y,ys,m,e',g1,_,g3,_⟩=>e▸e'▸in_tuple_strs ⟨_,g1,rfl,_,rfl⟩ (g3.strs q) (kb (rZ _ _) h)
  |none=>exact XI h hb fun y h hb=>match hb.inv with
   |⟨y,ys,m,e',g1,_,g3,_⟩=>
    have i:=IV (A:=A.in1) g3 (Zk h).1
    (DR.inv ha:va=_)▸e'▸in_listAt (fun v=>v== .none) ⟨_,g1,rfl,_,rfl⟩ (fun v hv=>i.at_ v (Array.mem_def.mp hv)) (kb (by rw[← yw];exact i.any) (Zk h).2)
  |_=>exact False.elim h
theorem Bu{K:Bool→Prop}(ha:c.SR ν s.heap a va)(hb:c.SR ν s.heap b vb)(h:LY .NotIn a b K):Cm c ν .NotIn s K va vb:=fun A E p=>
 Z7 (P:=fun va=>wpAny c.M A (jl .NotIn va vb) _ _ _) h ha fun x t _ h=>WQ h hb fun y h hb=>Zw h fun ns q h=>match hb.inv with|⟨y,ys,m,e',g1,_,g3,_⟩=>e'▸notin_tuple_ints ⟨_,g1,rfl,_,rfl⟩ (g3.ints q) (kb rfl h)
theorem MC{op:qw}{f:Int→Int→Bool}{K:Bool→Prop}(rule:∀{x y t u A E} {Q:aa→ai→Prop},Q (.bool (f x y)) s→wpAny c.M A (jl op (.int x t) (.int y u)) Q E s)(ha:c.SR ν s.heap a va)(hb:c.SR ν s.heap b vb)
  (h:ZK a fun x=>ZK b fun y=>K (f x y)):Cm c ν op s K va vb:=fun A E p=>
 Z7 (P:=fun va=>wpAny c.M A (jl op va vb) _ _ _) h ha fun x t _ h=>Z7 (P:=fun vb=>wpAny c.M A (jl op _ vb) _ _ _) h hb fun y u _ h=>rule (kb rfl h)
theorem SU{op:qw}{K:Bool→Prop}(ha:c.SR ν s.heap a va)(hb:c.SR ν s.heap b vb)(h:LY op a b K):Cm c ν op s K va vb:=by
 cases op with
 |Eq=>exact AaW ha hb h
 |NotEq=>exact AaZ ha hb h
 |Lt=>exact MC (f:=fun x y=>decide (x<y)) A0i ha hb h
 |LtE=>exact MC (f:=fun x y=>decide (x≤y)) PyProof.Rows.le_int ha hb h
 |Gt=>exact MC (f:=fun x y=>decide (y<x)) PyProof.Rows.gt_int ha hb h
 |GtE=>exact MC (f:=fun x y=>decide (y≤x)) PyProof.Rows.ge_int ha hb h
 |Is=>exact AaX ha hb h
 |IsNot=>exact Bt ha hb h
 |In=>exact AaY ha hb h
 |NotIn=>exact Bu ha hb h
end
def ZL(C:Cx)(c:Cf)(ν:List Addr)(e:Expr)(p:PE):Prop:=∀env st Q X s,c.I ν env st s→Xu C p env st Q X→G9 c ν env (eval e c.ce) Q X s
def YK(C:Cx)(c:Cf)(ν:List Addr)(e:Expr)(p:PE):Prop:=∀env st Q X s,c.I ν env st s→L6 C p env st Q X→mK c ν env (isTrue e c.ce (eval e c.ce)) Q X s
def YD(C:Cx)(c:Cf)(ν:List Addr)(es:List Expr)(p:PE):Prop:=∀pos env st Q X s,c.I ν env st s→Wa C p env st Q X→OkL c ν env (spliced (backTo pos (starEach es c.ce))) Q X s
theorem YZ{env:Ev}{i:Nat}{K:S→Prop}{P:Prop}(h:VB env i K)(k:∀v,env[i]?=some (some v)→K v→P):P:=by
 unfold VB at h
 cases e:env[i]? with
 |none=>rw[e] at h;exact False.elim h
 |some o=>rw[e] at h;cases o with
  |none=>exact False.elim h
  |some v=>exact k v e h
theorem Qp{env:Ev}{i:Nat}{K:S→Prop}{v:S}(e:env[i]?=some (some v))(h:K v):VB env i K:=by unfold VB;rw[e];exact h
theorem W5{vs:List S}{K:List D→Prop}{P:Prop}(h:NQ vs K)(k:∀l,sH vs=some l→K l→P):P:=Zw h k
section
variable{C:Cx}{c:Cf}{ν:List Addr}{env:Ev}{st:St}{s s':ai}{X:Xp}{a b pa pb pt:PE}{l r x e:Expr}{es:List Expr}{pos:Pos}{op:qw}
noncomputable def B6:zo→Option D
 | .none=>some .none
 | .bool b=>some (.bool b)
 | .int i=>some (.int i)
 | .str x=>some (.str x)
 |_=>none
theorem KZ{k:zo}{n:Nat}{d:D}(h:B6 k=some d):ZL C c ν (.Constant k n pos) (.lit d):=fun env st Q X s i hq=>by
 cases k with
 |none=>cases h;exact up<|wpAny_Constant_none ⟨_,st,hq,DR.none,i,.refl _ _⟩
 |bool b=>cases h;exact up<|wpAny_Constant_bool ⟨_,st,hq,DR.bool b,i,.refl _ _⟩
 |int j=>cases h;exact up<|wpAny_Constant_int ⟨_,st,hq,DR.int j _,i.SO fun _ _ e=>e,.toks _⟩
 |str x=>cases h;exact up<|PySem.Calls.Constant_str ⟨_,st,hq,DR.str x _,i.SO fun _ _ e=>e,.toks _⟩
 |_=>exact no h
theorem Qo{x:Str}{cv:aa}{E:aa→ai→Prop}{A:bz}{Q:aa→ai→Prop}{lm cm:Str→Option aa}(ok:c.Ok)(hc:(x==("__classdict__":Str))=false)(f:Nn c ν env s.heap lm cm)(e:Sx c.ce lm cm x=some cv)(h:Q cv s):wpAny c.M A (loadName c.ce x) Q E s:=by
 unfold Sx at e
 cases hk:c.ce.kindOf x with
 |none=>rw[hk] at e;exact no e
 |some k=>
  rw[hk] at e
  cases k with
  |«local»=>exact j7 ok.kind hk f.ns e h
  |cell=>exact(av.mp e).elim fun a q=>wpAny_loadName_cell ok.kind hk q.1 (v:=cv) (q.2▸(f.cell x a q.1).is) h
  |free=>exact(av.mp e).elim fun a q=>wpAny_loadName_free ok.kind hk q.1 (v:=cv) (q.2▸(f.cell x a q.1).is) h hc
  |_=>exact no e
theorem SV{x:Str}{j:Nat}(ok:c.Ok)(hx:c.nm.lookup x=some j)(hd:(x==("__debug__":Str))=false)(hc:(x==("__classdict__":Str))=false):ZL C c ν (.Name x pos) (.var j):=fun env st Q X s i hq=>
 YZ hq fun v hv q=>match i.VE with|⟨lm,cm,f⟩=>match f.val x j v hx hv with|⟨cv,e,r⟩=>Q4 (up (Qo ok hc f e ⟨v,st,q,r,i,.refl _ _⟩)) hd
theorem GO{op:qx}(ok:c.Ok)(h1:ZL C c ν l a)(h2:ZL C c ν r b):ZL C c ν (.BinOp l op r pos) (.bin op a b):=fun env st Q X s i hq=>
 FY ((h1 _ _ _ _ _ i hq).then fun x cx st1 s1 q1 r1 i1 g1=>(h2 _ _ _ _ _ i1 q1).then fun y cy st2 s2 q2 r2 i2 g2=>(uA i2 ok (SR.go r1 i1 g2) r2 q2).out ok i2 (g1.trans g2))
theorem gS(ok:c.Ok)(h1:ZL C c ν x a):ZL C c ν (.UnaryOp .USub x pos) (.neg a):=fun env st Q X s i hq=>
 LW ((h1 _ _ _ _ _ i hq).then fun x cx st1 s1 q1 r1 i1 g1=>(tZ (K:=fun d=>Q (.d d) st1) r1 q1).out ok i1 g1)
theorem KB.use{t:Sem aa}{K:Bool→Prop}{R:aa→ai→Prop}{E:aa→ai→Prop}(h:Prim c ν t (KB K) s)(ok:c.Ok)(i:c.I ν env st s)(k:∀b s',K b→c.I ν env st s'→c.Go s s'→R (.bool b) s'):Zh c.M c.A t R E s:=
 h.use ok i fun d cv s' q r i g=>by cases q with|mk q=>exact(DR.inv r:cv=_)▸k _ _ q i g
theorem gT(ok:c.Ok)(hm:uw op r=false)(h1:ZL C c ν l a)(h2:ZL C c ν r b):ZL C c ν (.Compare l [op] [r] pos) (.cmp op a b):=fun env st Q X s i hq=>
 Tj ((h1 _ _ _ _ _ i hq).then fun x cx st1 s1 q1 r1 i1 g1=>(h2 _ _ _ _ _ i1 q1).then fun y cy st2 s2 q2 r2 i2 g2=>
  KB.use (SU (SR.go r1 i1 g2) r2 q2) ok i2 fun b s3 q i3 g3=>⟨_,_,q,DR.bool b,i3,g1.trans (g2.trans g3)⟩) hm
theorem B7(ok:c.Ok)(hm:uw op r=false)(h1:ZL C c ν l a)(h2:ZL C c ν r b):YK C c ν (.Compare l [op] [r] pos) (.cmp op a b):=fun env st Q X s i hq=>
 ZV ((h1 _ _ _ _ _ i hq).then fun x cx st1 s1 q1 r1 i1 g1=>(h2 _ _ _ _ _ i1 q1).then fun y cy st2 s2 q2 r2 i2 g2=>
  KB.use (SU (SR.go r1 i1 g2) r2 q2) ok i2 fun b s3 q i3 g3=>up<|wpAny_truthy_bool ⟨_,q,i3,g1.trans (g2.trans g3)⟩) hm
theorem Bw{r':Expr}{op':qw}{b':PE}(ok:c.Ok)(hm:A0b [op,op'] [r,r']=false)(h1:ZL C c ν l a)(h2:ZL C c ν r b)(h3:ZL C c ν r' b'):ZL C c ν (.Compare l [op,op'] [r,r'] pos) (.S6 op op' a b b'):=fun env st Q X s i hq=>
 Q6 ((h1 _ _ _ _ _ i hq).then fun x cx st1 s1 q1 r1 i1 g1=>LU ((h2 _ _ _ _ _ i1 q1).then fun y cy st2 s2 q2 r2 i2 g2=>
  KB.use (SU (SR.go r1 i1 g2) r2 q2) ok i2 fun v s3 q i3 g3=>up<|wpAny_truthy_bool (by
   have g:=g1.trans (g2.trans g3)
   cases v with
   |false=>exact⟨_,_,q,DR.bool _,i3,g⟩
   |true=>exact LV ((h3 _ _ _ _ _ i3 q).then fun z cz st4 s4 q4 r4 i4 g4=>KB.use (SU (SR.go r2 i2 (g3.trans g4)) r4 q4) ok i4 fun v s5 q i5 g5=>⟨_,_,q,DR.bool _,i5,g.trans (g4.trans g5)⟩)))) hm
theorem E6{r':Expr}{op':qw}{b':PE}(ok:c.Ok)(hm:A0b [op,op'] [r,r']=false)(h1:ZL C c ν l a)(h2:ZL C c ν r b)(h3:ZL C c ν r' b'):YK C c ν (.Compare l [op,op'] [r,r'] pos) (.S6 op op' a b b'):=fun env st Q X s i hq=>
 Oo ((h1 _ _ _ _ _ i hq).then fun x cx st1 s1 q1 r1 i1 g1=>Im ((h2 _ _ _ _ _ i1 q1).then fun y cy st2 s2 q2 r2 i2 g2=>
  KB.use (SU (SR.go r1 i1 g2) r2 q2) ok i2 fun v s3 q i3 g3=>up<|wpAny_truthy_bool (by
   have g:=g1.trans (g2.trans g3)
   cases v with
   |false=>exact⟨_,q,i3,g⟩
   |true=>exact Ip ((h3 _ _ _ _ _ i3 q).then fun z cz st4 s4 q4 r4 i4 g4=>KB.use (SU (SR.go r2 i2 (g3.trans g4)) r4 q4) ok i4 fun v s5 q i5 g5=>up<|wpAny_truthy_bool ⟨_,q,i5,g.trans (g4.trans g5)⟩)))) hm
theorem ite_snd{t a b:Expr}(h1:YK C c ν t pt)(h2:ZL C c ν a pa)(h3:ZL C c ν b pb):ZL C c ν (.IfExp t a b pos) (.ite pt pa pb):=fun env st Q X s i hq=>
 S4 ((h1 _ _ _ _ _ i hq).then fun v st1 s1 q1 i1 g1=>by
  cases v with
  |true=>exact(h2 _ _ _ _ _ i1 q1).from g1
  |false=>exact(h3 _ _ _ _ _ i1 q1).from g1)
theorem B8(h1:YK C c ν x a):YK C c ν (.UnaryOp .Not x pos) (.not a):=fun env st Q X s i hq=>
 Q3 ((h1 _ _ _ _ _ i hq).then fun v st1 s1 q1 i1 g1=>⟨_,q1,i1,g1⟩)
theorem Wu:YD C c ν [] .nil:=fun pos env st Q X s i hq=>Zc ⟨[],st,hq,.nil,i,.refl _ _⟩
theorem SS.go{svs:List S}{cvs:List aa}(x:SS c ν s.heap svs cvs)(i:c.I ν env st s)(y:c.Go s s'):SS c ν s'.heap svs cvs:=by
 induction x with
 |nil=>exact .nil
 |cons a r ih=>exact .cons (SR.go a i y) ih
theorem Wd{r:PE}(he:∀env,starEach (e::es) env=(false,eval e env)::starEach es env)(h1:ZL C c ν e a)(h2:YD C c ν es r):YD C c ν (e::es) (.cons a r):=fun pos env st Q X s i hq=>by
 unfold OkL
 rw[he]
 exact ZG ((h1 _ _ _ _ _ i hq).then fun x cx st1 s1 q1 r1 i1 g1=>(h2 _ _ _ _ _ _ i1 q1).then fun y cy st2 s2 q2 r2 i2 g2=>⟨_,st2,q2,.cons (SR.go r1 i1 g2) r2,i2,g1.trans g2⟩)
theorem W4{svs:List S}{cvs:List aa}{l:List D}(e:sH svs=some l)(x:SS c ν s.heap svs cvs):ZZ c.w ν s.heap l cvs:=by
 induction svs generalizing cvs l with
 |nil=>cases x;cases e;exact .nil
 |cons sv r ih=>cases x with
  |cons a b=>
   refine YB e fun d m e1 e2 q=>q▸ ?_
   cases sv with
   |d v=>cases e1;exact .cons a (ih e2 b)
   |_=>exact no e1
theorem gQ{k:Nat}(h:YD C c ν es a):ZL C c ν (.Tuple es k pos) (.tup a):=fun env st Q X s i hq=>
 Y6 ((h _ _ _ _ _ _ i hq).then fun svs cvs st1 s1 q1 r1 i1 g1=>W5 q1 fun l e q=>by
  have r:=W4 e r1
  have ⟨z,q⟩:=Yv q
  rw[r.length] at z
  have k:=KS.VN s1 (TV cvs.toArray 0)
  exact⟨z,_,_,q,GH (s:=s1) (xs:=cvs.toArray) (WN i1) r z s1.toks,i1.ks k,g1.trans k.go⟩)
theorem gU(h:YD C c ν es a):ZL C c ν (.List es pos) (.lst a):=fun env st Q X s i hq=>
 ZM ((h _ _ _ _ _ _ i hq).then fun svs cvs st1 s1 q1 r1 i1 g1=>W5 q1 fun l e q=>by
  have r:=W4 e r1
  have ⟨z,q⟩:=Yv q
  rw[r.length] at z
  have k:=KS.VN s1 (Zo cvs.toArray 0)
  exact⟨z,_,_,q,KY (s:=s1) (xs:=cvs.toArray) (WN i1) r z s1.toks,i1.ks k,g1.trans k.go⟩)
def IX(C:Cx)(c:Cf)(ν:List Addr)(op:BoolOp)(es:List Expr)(p:PE):Prop:=∀pos env st Q X s,c.I ν env st s→Xu C p env st Q X→G9 c ν env (boolOp pos op (evalEach es c.ce)) Q X s
def Po(C:Cx)(c:Cf)(ν:List Addr)(op:BoolOp)(es:List Expr)(p:PE):Prop:=∀env st Q X s,c.I ν env st s→L6 C p env st Q X→mK c ν env (yz op es c.ce) Q X s
theorem B5{op:BoolOp}(h:ZL C c ν e a):IX C c ν op [e] a:=fun pos env st Q X s i hq=>h env st Q X s i hq
theorem B3{e':Expr}{r:PE}(h1:ZL C c ν e a)(h2:IX C c ν .And (e'::es) r):IX C c ν .And (e::e'::es) (.and a r):=fun pos env st Q X s i hq=>
 Zb (m:=eval e c.ce) ((h1 _ _ _ _ _ i hq).then fun x cx st1 s1 q1 r1 i1 g1=>Zp (Zb (Zd (up (Pn r1 q1 fun b hb=>by
  cases b with
  |false=>exact Zc ⟨_,_,hb,r1,i1,g1⟩
  |true=>exact(h2 pos _ _ _ _ _ i1 hb).from g1)))))
theorem gR{e':Expr}{r:PE}(h1:ZL C c ν e a)(h2:IX C c ν .Or (e'::es) r):IX C c ν .Or (e::e'::es) (.or a r):=fun pos env st Q X s i hq=>
 Zb (m:=eval e c.ce) ((h1 _ _ _ _ _ i hq).then fun x cx st1 s1 q1 r1 i1 g1=>Zp (Zb (Zd (up (Pn r1 q1 fun b hb=>by
  cases b with
  |true=>exact Zc ⟨_,_,hb,r1,i1,g1⟩
  |false=>exact(h2 pos _ _ _ _ _ i1 hb).from g1)))))
theorem Bv{op:BoolOp}(h:IX C c ν op es a):ZL C c ν (.BoolOp op es pos) a:=fun env st Q X s i hq=>by rw[arm_eval_BoolOp];exact h pos env st Q X s i hq
theorem E3{r:PE}(h1:YK C c ν e a)(h2:Po C c ν .And es r):Po C c ν .And (e::es) (.and a r):=fun env st Q X s i hq=>
 XC ((h1 _ _ _ _ _ i hq).then fun v st1 s1 q1 i1 g1=>by
  cases v with
  |true=>exact(h2 _ _ _ _ _ i1 q1).from g1
  |false=>exact⟨_,q1,i1,g1⟩)
theorem B4{r:PE}(h1:YK C c ν e a)(h2:Po C c ν .Or es r):Po C c ν .Or (e::es) (.or a r):=fun env st Q X s i hq=>
 XU ((h1 _ _ _ _ _ i hq).then fun v st1 s1 q1 i1 g1=>by
  cases v with
  |false=>exact(h2 _ _ _ _ _ i1 q1).from g1
  |true=>exact⟨_,q1,i1,g1⟩)
theorem E5{op:BoolOp}(h:YK C c ν e a):Po C c ν op [e] a:=fun env st Q X s i hq=>by
 cases op with
 |And=>exact XC ((h _ _ _ _ _ i hq).then fun v st1 s1 q1 i1 g1=>by
  cases v with
  |true=>exact Up ⟨_,q1,i1,g1⟩
  |false=>exact⟨_,q1,i1,g1⟩)
 |Or=>exact XU ((h _ _ _ _ _ i hq).then fun v st1 s1 q1 i1 g1=>by
  cases v with
  |false=>exact UH ⟨_,q1,i1,g1⟩
  |true=>exact⟨_,q1,i1,g1⟩)
theorem E4{op:BoolOp}(h:Po C c ν op es a):YK C c ν (.BoolOp op es pos) a:=fun env st Q X s i hq=>Tl (h env st Q X s i hq)
theorem VO(he:∀env whole,isTrue e env whole=(do let v ← whole;standAt e.pos;holding [v] (truthy v)))(h:ZL C c ν e a)
  (hw:∀env st Q X,L6 C a env st Q X→Xu C a env st (fun v st=>Q8 v fun b=>Q b st) X):YK C c ν e a:=fun env st Q X s i hq=>
 S2 ((h _ _ _ _ _ i (hw _ _ _ _ hq)).then fun x cx st1 s1 q1 r1 i1 g1=>up<|Pn r1 q1 fun b hb=>⟨_,hb,i1,g1⟩) (he _ _)
end
noncomputable def uC:List Str:=["octet","peek","take","part","unsigned","signed","u32","s7","s32","s33","s64","name","left","put"]
noncomputable def Vq(n:Nat):Str:=uC.getD n "many"
noncomputable def gV:Tag→Addr
 | .cur=>MA
 |_=>TY
noncomputable def attrOk(K:Frag)(C:Addr)(name:Str):Bool:=plainGet K C name&&(hasDictIn K C&&findIn K (.ref C) name==some none)
noncomputable def BF(K:Frag)(c n:Nat):Bool:=match Gf c n with
 |some j=>attrOk K (Bk c) (Yp n)&&(((fieldsOf c).map Yp).findIdx? (· ==Yp n)==some j)
 |none=>true
theorem Pp(P:b7):((fu 3).all (fun c=>(fu 13).all (BF (KF P) c))&&((fu 3).all (fun n=>attrOk (KF P) MA (Yp n))&&attrOk (KF P) TY (Yp 0)))=true:=by kernel_rfl
noncomputable def Nr(o:Obj):Bool:=match o.data with| .func _=>true|_=>false
noncomputable def Sf(K:Frag)(f:Addr):Bool:=(K.lookup f).any Nr
theorem BG{o:Obj}(e:Nr o=true):∃fd,o.data= .func fd:=by
 unfold Nr at e
 cases h:o.data with
 |func fd=>exact⟨fd,rfl⟩
 |_=>rw[h] at e;exact ff e
theorem Zg{α:Type}{o:Option α}{p:α→Bool}(e:o.any p=true):∃a,o=some a∧p a=true:=by cases o with|none=>exact ff e|some a=>exact⟨a,rfl,e⟩
noncomputable def BA(K:Frag)(C:Addr)(m:Nat)(f:Addr):Bool:=plainGet K C (Vq m)&&(findIn K (.ref C) (Vq m)==some (some (.ref f))&&(typeIn K (.ref f)==some (.type "function")&&(Sf K f&&([Yp 0,Yp 1,Yp 2].all fun k=> !(k==Vq m)))))
theorem BE(P:b7):([.digits,.one,.sink,.cur]:List Tag).all (fun t=>(lU t).all fun p=>BA (KF P) (gV t) p.1 p.2)=true:=by kernel_rfl
theorem lookup_mem{β:Type}{l:List (Nat × β)}{m:Nat}{f:β}(h:l.lookup m=some f):(m,f)∈l:=by
 induction l with
 |nil=>exact no h
 |cons x l ih=>
  obtain⟨k,b⟩:=x
  rw[gz] at h
  cases e:m==k with
  |true=>rw[e] at h;cases h;exact beq_iff_eq.mp e▸ .head _
  |false=>rw[e] at h;exact .tail _ (ih h)
theorem BD{P:b7}{t:Tag}{m f:Nat}(h:lW t m=some f):BA (KF P) (gV t) m f=true:=az.mp (az.mp (BE P) t (by cases t;exact .head _;exact .tail _ (.head _);exact .tail _ (.tail _ (.head _));exact .tail _ (.tail _ (.tail _ (.head _))))) _ (lookup_mem h)
noncomputable def Ja:List Str→List aa→Str→Option aa
 |[],_,_=>none
 |n::ns,vs,x=>cond (n==x) vs.head? (Ja ns vs.tail x)
theorem B9{x:Str}{ns:List Str}{vs:List aa}{j:Nat}{v:aa}(h:ns.findIdx? (· ==x)=some j)(hv:vs[j]?=some v):Ja ns vs x=some v:=by
 induction ns generalizing vs j with
 |nil=>exact no h
 |cons n ns ih=>
  rw[xe] at h
  show cond (n==x) _ _=_
  cases e:n==x with
  |true=>rw[e] at h;cases h;exact z7.trans hv
  |false=>rw[e] at h;exact(bk.mp h).elim fun i q=>ih q.1 (by rw[List.getElem?_tail];exact q.2▸hv)
theorem ZT.get{w:b3}{x:Str}{ns:List Str}{vs:List aa}{es:List dw}(h:ZT w ns vs es):getL x es=some (Ja ns vs x):=by
 induction h with
 |nil=>rfl
 |@cons n ns v vs es t r ih=>
  show _=some (cond (n==x) _ _)
  cases e:n==x with
  |true=>unfold getL;rw[List.find?_cons_of_pos (by exact e)];rfl
  |false=>refine A03 ?_ ih;unfold getL;rw[List.find?_cons_of_neg (by show ¬(n==x)=true;rw[e];exact fh)];cases List.find? (fun(y:dw)=>y.key.isStr x) es<;>rfl
theorem DR.handed{w:b3}{ν:List Addr}{h:Heap}{d:D}{v:aa}(x:DR w ν h d v):A04 v=true:=
 DR.casesOn (motive_1:=fun d v _=>A04 v=true) x rfl (fun _=>rfl) (fun _ _=>rfl) (fun _ _=>rfl) (fun _ _ _=>rfl) (fun _ _ _ _=>rfl) (fun _ _ _ _=>rfl) (fun _ _ _ _ _ _=>rfl) fun _=>rfl
section
variable{C:Cx}{c:Cf}{ν:List Addr}{env:Ev}{st:St}{s s':ai}{X:Xp}{a:PE}{e:Expr}{es:List Expr}{pos:Pos}
theorem Cf.I.K(i:c.I ν env st s):(KF c.w.params).In s.heap:=(HW i.base).keeps i.stays
theorem WR{A:bz}{E:aa→ai→Prop}{x D:Addr}{k:Addr}{nm:Str}{es:List dw}{n:Nat}{names:List Str}{vs:List aa}{v:aa}{Q:aa→ai→Prop}(i:c.I ν env st s)
  (ok:attrOk (KF c.w.params) k nm=true) (h1:s.heap.get? x=some (Yy k D)) (h2:s.heap.get? D=some (ZA es n)) (he:ZT c.w names vs es) (hv:Ja names vs nm=some v) (hh:A04 v=true)
  (h:Q v {s with toks:=s.toks+1}):Zh c.M A (getAttr (.ref x) nm true) Q E s:=
 have ok:=both ok
 up<|get_value i.K (ox:=Yy k D) (od:=some (ZA es n)) ⟨h1,rfl,rfl,h2⟩ (plainGet_of ok.1).1 (findObj_own (both ok.2).1 (beq_iff_eq.mp (both ok.2).2) rfl (he.get.trans (congrArg some hv))) hh h
theorem Pq(P:b7){n:Nat}(h:n<3):attrOk (KF P) MA (Yp n)=true:=az.mp (both (both (Pp P)).2).1 n (l5.mpr h)
theorem BB(P:b7){c n:Nat}(h:(jd n 13&&jd c 3)=true):BF (KF P) c n=true:=az.mp (az.mp (both (Pp P)).1 c (l5.mpr (cw (both h).2))) n (l5.mpr (cw (both h).1))
theorem gW{A:bz}{E:aa→ai→Prop}{a:S}{va:aa}{n:Nat}{K:D→Prop}{R:aa→ai→Prop}(i:c.I ν env st s)(ha:c.SR ν s.heap a va)(h:attrS a n st K)
  (hR:∀d cv,K d→DR c.w ν s.heap d cv→R cv {s with toks:=s.toks+1}):Zh c.M A (getAttr va (Yp n) true) R E s:=by
 cases a with
 |tag t=>cases t with
  |cur=>exact Zw h fun cc hc h=>Zw h fun d hd h=>match ha,i.str.cur cc.1 cc.2.1 cc.2.2 hc with
   |⟨_,e⟩,⟨D,arr,t,ta,te,es,k,_,g1,_,g2,r,q,z⟩=>by
    subst e
    match n,hd with
    |0,hd=>cases hd;exact WR i (Pq _ (by decide)) g1 g2 r (by kernel_rfl) rfl (hR _ (.bytes arr t) h (q▸DR.bytes arr t z))
    |1,hd=>cases hd;exact WR i (Pq _ (by decide)) g1 g2 r (by kernel_rfl) rfl (hR _ (.int _ ta) h (DR.int _ _))
    |2,hd=>cases hd;exact WR i (Pq _ (by decide)) g1 g2 r (by kernel_rfl) rfl (hR _ (.int _ te) h (DR.int _ _))
  |_=>exact False.elim h
 |d v=>cases v with
  |inst cc l=>
   have ⟨b,h⟩:=Uy h
   have f:=BB c.w.params b
   exact Zw h fun j hj h=>Zw h fun d hd h=>match DR.inv ha with
    |⟨a,D,es,k,vs,e,g1,_,g2,_,r,rs⟩=>match rs.at hd with
     |⟨u,u1,u2⟩=>by
      subst e
      unfold BF at f
      rw[hj] at f
      exact WR i (both f).1 g1 g2 r (B9 (beq_iff_eq.mp (both f).2) u1) u2.handed (hR _ _ h u2)
  |_=>exact False.elim h
 |_=>exact False.elim h
theorem BC{nm:Str}{n:Nat}(hb:∀env whole,uz e nm env whole=whole)(hn:Yp n=nm)(h1:ZL C c ν e a):ZL C c ν (.Attribute e nm pos) (.attr a n):=fun env st Q X s i hq=>by
 subst hn
 unfold G9
 rw[sx,hb]
 exact Zb ((h1 _ _ _ _ _ i hq).then fun x cx st1 s1 q1 r1 i1 g1=>Zp (Zb (Zd (gW i1 r1 q1 fun d cv hk r=>
  Zb (up<|wpAny_letTemporaryGo (Zc (Q:=Sa c ν env Q s) ⟨.d d,_,hk,r,i1.ks (KS.tok s1 _),g1.trans (.toks _)⟩))))))
end
def XA(C:Cx)(r:Nat):Prop:=∀(c:Cf) (ν:List Addr) (env:Ev) (st:St) (s:ai) (f:Nat) (vs:List S) (cvs:List aa) (Q:S→St→Prop) (X:Xp),c.Ok→c.r=r→c.I ν env st s→SS c ν s.heap vs cvs→C.call f vs st (fun d st=>Q (.d d) st) X→
 Sf (KF c.w.params) f=true∧G9 c ν env (PySem.call (.ref f) cvs) Q X s
set_option backward.match.sparseCases true in
noncomputable def isStar:Expr→Bool
 | .Starred _ _=>true
 |_=>false
noncomputable def noStar(es:List Expr):Bool:=es.all fun e=> !isStar e
section
variable{C:Cx}{c:Cf}{ν:List Addr}{env:Ev}{st:St}{s s':ai}{X:Xp}{a:PE}{e:Expr}{es:List Expr}{pos p:Pos}
theorem Yq{env:Env}(h:isStar e=false):starEach (e::es) env=(false,eval e env)::starEach es env:=by cases e<;>first|rfl|exact nomatch h
theorem Pu{env:Env}(h:noStar es=true):starEach es env=es.map fun e=>(false,eval e env):=by
 induction es with
 |nil=>rfl
 |cons e r ih=>rw[Yq (ia _▸(both h).1),ih (both h).2];rfl
theorem ZH{env:Env}(h:noStar es=true):backTo pos (starEach es env)=es.map fun e=>(false,eval e env):=by
 rw[Pu h];exact ko
theorem plain_any{env:Env}(h:noStar es=true):(backTo pos (starEach es env)).any (·.1)=false:=by
 rw[ZH h,List.any_map]
 exact xw.mpr fun _ _=>fh
theorem W6{A:bz}{E:aa→ai→Prop}{f:Addr}{first:List aa}{pos':Pos}{Q:aa→ai→Prop}(hf:Sf (KF c.w.params) f=true)(hn:noStar es=true)
  (h:Zh c.M A (spliced (backTo pos' (starEach es c.ce))) (fun vs s'=>(KF c.w.params).In s'.heap∧Zh c.M A (PySem.call (.ref f) (first++vs)) Q E s') E s):
  Zh c.M A (callWith pos (.ref f) first (backTo pos' (starEach es c.ce)) []) Q E s:=
 (Zg hf).elim fun o q=>(BG q.2).elim fun fd h2=>UG (o:=o) (fd:=fd) (plain_any hn) (Yu (plain_any hn) (Zi h (fun vs s' x=>⟨⟨x.1 f o q.1,h2⟩,x.2⟩) fun _ _ e=>e))
theorem SS.app{h:Heap}{l m:List S}{vs us:List aa}(x:SS c ν h l vs)(y:SS c ν h m us):SS c ν h (l++m) (vs++us):=by
 induction x with
 |nil=>exact y
 |cons a _ ih=>exact .cons a ih
theorem args_call{f:Nat}{first:List S}{cf:List aa}{Q:S→St→Prop}{s₀:ai}{pos':Pos}(ok:c.Ok)(hC:XA C c.r)(hf:Sf (KF c.w.params) f=true)(hn:noStar es=true)(h:YD C c ν es a)(i:c.I ν env st s)(g:c.Go s₀ s)(r:SS c ν s.heap first cf)
  (hq:Wa C a env st (fun vs st=>C.call f (first++vs) st (fun v st=>Q (.d v) st) X) X):Zh c.M c.A (callWith pos (.ref f) cf (backTo pos' (starEach es c.ce)) []) (Sa c ν env Q s₀) (c.RX X) s:=
 W6 hf hn ((h _ _ _ _ _ _ i hq).then fun svs cvs st1 s1 q1 r1 i1 g1=>⟨i1.K,(hC c ν env st1 s1 f _ _ _ X ok rfl i1 ((r.go i g1).app r1) q1).2.from (g.trans g1)⟩)
theorem BH{x:Str}{f:Nat}(ok:c.Ok)(hC:XA C c.r)(hn:noStar es=true)(hf:Sf (KF c.w.params) f=true)
  (hx:∀env st s E (R:aa→ai→Prop),c.I ν env st s→R (.ref f) s→Zh c.M c.A (eval (.Name x p) c.ce) R E s) (h:YD C c ν es a):ZL C c ν (.Call (.Name x p) es [] pos) (.call f a):=fun env st Q X s i hq=>
 Z8 (hx env st s _ _ i (args_call (first:=[]) ok hC hf hn h i (.refl _ _) .nil hq))
theorem BJ(P:b7):RP.all (fun f=>Sf (KF P) f)=true:=by kernel_rfl
theorem BL{x:Str}{j:Nat}{sv:S}{R:aa→ai→Prop}(ok:c.Ok)(hx:c.nm.lookup x=some j)(hd:(x==("__debug__":Str))=false)(hc:(x==("__classdict__":Str))=false)(i:c.I ν env st s)(hv:env[j]?=some (some sv))
  (k:∀cv s',c.SR ν s'.heap sv cv→c.I ν env st s'→c.Go s s'→R cv s'):Zh c.M c.A (eval (.Name x p) c.ce) R (c.RX X) s:=
 (SV (C:=⟨fun _ _ _ _ _=>True,fun _ _=>none,fun _ _=>none⟩) ok hx hd hc env st (fun sv' st'=>sv'=sv∧st'=st) X s i (Qp hv ⟨rfl,rfl⟩)).then fun sv' cv st0 s0 q0 r0 i0 g0=>k cv s0 (q0.1▸r0) (q0.2▸i0) g0
theorem E7{x:Str}{j:Nat}(ok:c.Ok)(hC:XA C c.r)(hn:noStar es=true)(hx:c.nm.lookup x=some j)(hd:(x==("__debug__":Str))=false)(hc:(x==("__classdict__":Str))=false)
  (h:YD C c ν es a):ZL C c ν (.Call (.Name x p) es [] pos) (.Gd j a):=fun env st Q X s i hq=>
 YZ hq fun v hv hq=>Wt hq fun d e hq=>by
  cases e
  cases d with
  |fn f=>
   have ⟨b,hq⟩:=Zk hq
   exact Z8 (BL ok hx hd hc i hv fun cv s0 r0 i0 g0=>(DR.inv r0:cv=_)▸args_call (first:=[]) ok hC (az.mp (BJ c.w.params) f (List.mem_of_elem_eq_true b)) hn h i0 g0 .nil hq)
  |_=>exact False.elim hq
inductive Aee(c:Cf)(h:Heap)(t:Tag)(x:aa):Prop
 |mk (a D:Addr) (es:List dw) (n:Nat) (names:List Str) (vs:List aa) (e:x= .ref a) (g1:h.get? a=some (Yy (gV t) D)) (g2:h.get? D=some (ZA es n)) (r:ZT c.w names vs es) (k:∀nm∈names,nm∈[Yp 0,Yp 1,Yp 2])
theorem BK{t:Tag}{x:aa}(i:c.I ν env st s)(hx:O9 c.ρ t x)(hst:Ge t st=true):Aee c s.heap t x:=by
 cases t with
 |cur=>
  obtain⟨q,hc⟩:=fk.mp hst
  exact match i.str.cur q.1 q.2.1 q.2.2 hc with|⟨D,arr,t,ta,te,es,n,_,g1,_,g2,r,_,_⟩=>⟨_,D,es,n,_,_,hx.2,g1,g2,r,fun _ h=>h⟩
 |sink=>
  obtain⟨q,hc⟩:=fk.mp hst
  exact match i.str.sink q hc with|⟨b,D,arr,es,n,_,g1,_,g2,_,r,_,_⟩=>⟨_,D,es,n,_,_,hx.2,g1,g2,r,fun _ h=>(iy.mp h)▸ .head _⟩
 |_=>exact ff hst
theorem BN{x:Str}{ns:List Str}{vs:List aa}(h:∀n∈ns,(n==x)=false):Ja ns vs x=none:=by
 induction ns generalizing vs with
 |nil=>rfl
 |cons n ns ih=>show cond (n==x) _ _=_;rw[h n (.head _)];exact ih fun m hm=>h m (.tail _ hm)
theorem GP{v:Expr}{m:Str}{ap:Pos}{Q:aa→ai→Prop}{E:aa→ai→Prop}(hb:uz v m c.ce (eval v c.ce)=eval v c.ce)(hn:noStar es=true)(hl:es.length<30)(hp:ap.endLine=pos.line)
  (h:Zh c.M c.A (eval v c.ce) (fun cv s0=>∀pl,Zh c.M c.A (wk cv m pl) (fun p s1=>Zh c.M c.A (callWith pos p.1 p.2 (backTo pos (starEach es c.ce)) []) Q E s1) E s0) E s):Zh c.M c.A (eval (.Call (.Attribute v m ap) es [] pos) c.ce) Q E s:=by
 have few:methodCallForm (es.length+([]:List A0L).length) (backTo pos (starEach es c.ce)) (backToKw pos (keywordEach [] c.ce))=true:=by
  show methodCallForm (es.length+0) _ []=true;unfold methodCallForm;rw[ZH hn];simp [hl]
 rw[arm_eval_Call,hb]
 refine Zb (Zi h (fun cv s0 h=> ?_) fun _ _ e=>e)
 refine Zp ?_
 unfold methodCall
 refine Zb (Zd ?_)
 unfold calleeOf
 rw[few]
 refine Zi (h _) (fun p s1 h=> ?_) fun _ _ e=>e
 unfold methodCallPos
 rw[show(!true||ap.endLine==pos.line)=true by simp [hp]]
 exact Zb (Zc h)
theorem BP{x:Str}{apos:Pos}{j m:Nat}(ok:c.Ok)(hC:XA C c.r)(hn:noStar es=true)(hl:es.length<30)(hx:c.nm.lookup x=some j)(hd:(x==("__debug__":Str))=false)(hc:(x==("__classdict__":Str))=false)
  (hp:apos.endLine=pos.line) (h:YD C c ν es a):ZL C c ν (.Call (.Attribute (.Name x p) (Vq m) apos) es [] pos) (.Zv j m a):=fun env st Q X s i hq=>
 YZ hq fun v hv hq1=>Sd hq1 fun t e hq2=>Zw hq2 fun f hf hq3=>by
  subst e
  have ⟨hlive,hq⟩:=Uy hq3
  have k:=both (BD (P:=c.w.params) hf)
  have k2:=both k.2
  have k3:=both k2.2
  have k4:=both k3.2
  refine GP rfl hn hl hp (BL ok hx hd hc i hv fun cv s0 r0 i0 g0 pl=> ?_)
  cases BK i0 r0 hlive with
  |mk b D des n names vs e h1 h2 h3 h4=>
  subst e
  refine up<|method_fn i0.K (ox:=Yy (gV t) D) (od:=some (ZA des n)) ⟨h1,rfl,rfl,h2⟩ (plainGet_of k.1).1 (plainGet_of k.1).2 (beq_iff_eq.mp k2.1) (beq_iff_eq.mp k3.1)
   (show(getL (Vq m) des.toArray.toList).map _=_ by
    rw[show getL (Vq m) des.toArray.toList=getL (Vq m) des from rfl,h3.get,BN fun nm hm=>ia _▸az.mp k4.2 nm (h4 nm hm)];rfl) ?_
  exact args_call (first:=[.tag t]) (cf:=[.ref b]) ok hC k4.1 hn h i0 g0 (.cons r0 .nil) hq
end
noncomputable def isSlice:Expr→Bool
 | .Slice ..=>true
 |_=>false
theorem Yn{slice:Expr}(h:isSlice slice=false)(o i:aa):subscripted slice false o i=operate [o,i] (getItem o i):=by
 cases slice<;>first|rfl|exact nomatch h
theorem Jb{n:Nat}{i:Int}{j:Nat}(h:Uz n i=some j){P:Prop}(k0:0≤i→i<n→i.toNat=j→P)(k1:¬0≤i→0≤n+i→(n+i).toNat=j→P):P:=by
 unfold Uz at h
 cases e:decide (0≤i) with
 |true=>
  rw[e] at h
  cases q:decide (i<n) with
  |true=>rw[q] at h;exact k0 (of_decide_eq_true e) (of_decide_eq_true q) (bh h)
  |false=>rw[q] at h;exact no h
 |false=>
  rw[e] at h
  cases q:decide (0≤n+i) with
  |true=>rw[q] at h;exact k1 (of_decide_eq_false e) (of_decide_eq_true q) (bh h)
  |false=>rw[q] at h;exact no h
structure IxR(n:Nat)(i:Int)(j:Nat):Prop where
 e:seqIndex? i n=some j
 lo: -(2^63)≤i
 hi:i<2^63
theorem Jc{n:Nat}{i:Int}{j:Nat}(h:Uz n i=some j)(z:n≤16777216):IxR n i j:=
 Jb h (fun h0 h1 e=>⟨by rw[seqIndex?,if_neg (mh.mpr h0),decide_eq_true h0,decide_eq_true h1,e];rfl,by omega,by omega⟩)
  fun h0 h1 e=>⟨by rw[seqIndex?,if_pos (jc.mp h0),w7,decide_eq_true h1,decide_eq_true (show(n:Int)+i<n by omega),e];rfl,by omega,by omega⟩
section
variable{C:Cx}{c:Cf}{ν:List Addr}{env:Ev}{st:St}{s s':ai}{X:Xp}{a b:PE}{pos:Pos}
theorem ME{A:bz}{E:aa→ai→Prop}{a:Addr}{xs:Array aa}{n:Nat}{i:Int}{t:Tok}{j:Nat}{v:aa}{Q:aa→ai→Prop}(g:s.heap.get? a=some (Zo xs n))(hz:xs.size≤16777216)
  (hj:Uz xs.size i=some j) (hv:xs[j]?=some v) (h:Q v s):wpAny c.M A (getItem (.ref a) (.int i t)) Q E s:=
 have b:=Jc hj hz
 Jb hj (fun h0 h1 e=>wpAny_getItem_list ⟨_,g,rfl,_,rfl⟩ h0 b.hi (by rw[e];exact hv) h)
  fun h0 h1 e=>wpAny_getItem_list_neg ⟨_,g,rfl,_,rfl⟩ (jc.mp h0) (by omega) b.lo (by rw[w7,e];exact hv) h
section
variable{value slice:Expr}{A:bz}{E:aa→ai→Prop}{va:aa}{K:D→Prop}{R:aa→ai→Prop}{k:Int}{t:Tok}
theorem gY{l:List D}(hp:isSlice slice=false)(ha:DR c.w ν s.heap (.tup l) va)(h:Cj l k K)
  (hR:∀d cv t,K d→DR c.w ν s.heap d cv→R cv {s with toks:=t}):wpAny c.M A (jj value slice va (.int k t)) R E s:=
 Zw h fun j e1 h=>Zw h fun d e2 hk=>match ha.inv with
  |⟨x,xs,n,e,g1,g2,g3,g4⟩=>match g3.at e2 with
   |⟨u,u1,u2⟩=>
    have b:=Jc (g3.size▸e1) g4
    e▸A05 (T:="tuple") (show s.TypeIs (.ref x) "tuple" from⟨_,g1,rfl⟩) slot_tuple_getitem.lookup (PyProof.Rows.getItem_tuple ⟨_,g1,rfl,_,rfl⟩ b.lo b.hi b.e (fq▸u1) (hR _ _ s.toks hk u2)) (Yn hp _ _)
theorem MD{l:List D}{x:Addr}{xs:Array aa}{n:Nat}(hp:isSlice slice=false)(g1:s.heap.get? x=some (Zo xs n))(g3:ZZ c.w ν s.heap l xs.toList)(hz:xs.size≤YU)(h:Cj l k K)
  (hR:∀d cv t,K d→DR c.w ν s.heap d cv→R cv {s with toks:=t}):wpAny c.M A (jj value slice (.ref x) (.int k t)) R E s:=
 Zw h fun j e1 h=>Zw h fun d e2 hk=>match g3.at e2 with
  |⟨u,u1,u2⟩=>A05 (T:="list") (show s.TypeIs (.ref x) "list" from⟨_,g1,rfl⟩) slot_list_getitem.lookup (ME g1 hz (g3.size▸e1) (fq▸u1) (hR _ _ s.toks hk u2)) (Yn hp _ _)
theorem gZ{arr:Array UInt8}{u:Tok}{v:Int}(hp:isSlice slice=false)(hz:arr.size≤16777216)(h0:0≤k)(e:(Rt arr)[k.toNat]?=some v)(hk:K (.int v))
  (hR:∀d cv t,K d→DR c.w ν s.heap d cv→R cv {s with toks:=t}):wpAny c.M A (jj value slice (.bytes arr u) (.int k t)) R E s:=by
 rw[f9] at e
 refine aj fun hn=> ?_
 obtain⟨q,q1,e⟩:=bk.mp e
 have hlt:k.toNat<arr.toList.length:=(mz.mp q1).1
 have ev:arr.toList.getD k.toNat 0=q:=by rw[e9,q1];rfl
 exact hn (A05 (T:="bytes") (j0 _ _ _) uh.lookup (getItem_bytes (prog:=pw) (w:=c.w) (A:=A) (E:=E) (s:=s) (t:=u) (u:=t) (l:=arr.toList) (i:=k) (Q:=R) (ao hz (by decide)) h0 (by omega)
  (by rw[ev];exact hR _ _ _ hk (e▸DR.int _ _))) (Yn hp _ _))
end
theorem uD{value slice:Expr}{A:bz}{E:aa→ai→Prop}{a b:S}{va vb:aa}{K:D→Prop}{R:aa→ai→Prop}(hp:isSlice slice=false)(i:c.I ν env st s)(ha:c.SR ν s.heap a va)(hb:c.SR ν s.heap b vb)
  (h:Aaq a b st K) (hR:∀d cv t,K d→DR c.w ν s.heap d cv→R cv {s with toks:=t}):wpAny c.M A (jj value slice va vb) R E s:=
 Z7 (P:=fun vb=>wpAny c.M A (jj value slice va vb) R E s) h hb fun k t _ h=>by
  cases a with
  |d v=>cases v with
   |tup l=>exact gY hp ha h hR
   |list l=>exact match DR.inv ha with|⟨x,xs,n,e,g1,g2,g3,g4⟩=>e▸MD hp g1 g3 g4 h hR
   |bytes l=>exact match DR.inv ha with|⟨arr,u,e,q,z⟩=>e▸Zw (Zk h).2 fun v e hk=>gZ hp z (of_decide_eq_true (Zk h).1) (q▸e) hk hR
   |_=>exact False.elim h
  |own l=>exact match ha with|⟨x,xs,n,e,g1,g3,g4,_⟩=>e▸MD hp g1 g3 g4 h hR
  |tag t=>cases t with
   |one=>
    have ⟨e1,h⟩:=Zk h
    cases of_decide_eq_true e1
    exact Zw h fun v e hk=>match ha,i.str.one v e with
     |⟨x,e0,e'⟩,⟨x',t,n,e1,g⟩=>by
      cases e0.symm.trans e1
      exact e'▸MD (l:=[.int v]) hp g (.cons (.int v t) .nil) (show 1≤16777216 by decide) hk hR
   |_=>exact False.elim h
  |_=>exact False.elim h
theorem gX{value slice:Expr}(hp:isSlice slice=false)(h1:ZL C c ν value a)(h2:ZL C c ν slice b):ZL C c ν (.Subscript value slice pos) (.sub a b):=fun env st Q X s i hq=>
 XE ((h1 _ _ _ _ _ i hq).then fun x cx st1 s1 q1 r1 i1 g1=>(h2 _ _ _ _ _ i1 q1).then fun y cy st2 s2 q2 r2 i2 g2=>
  up<|uD hp i2 (SR.go r1 i1 g2) r2 q2 fun d cv t hk r=>⟨.d d,_,hk,r,i2.ks (KS.tok s2 t),g1.trans (g2.trans (.toks t))⟩)
end
noncomputable def GC:List (Str × D):=[("I32",((.int (-1)))),("I64",((.int (-2)))),("FUNCREF",((.int (-16)))),("EXTERNREF",((.int (-17)))),("EMPTY",((.int (-64)))),("BLOCK",((.int (2)))),("LOOP",((.int (3)))),("IF",((.int (4)))),("ELSE",((.int (5)))),("END",((.int (11)))),("REF_FUNC",((.int (210)))),("MANY_PREFIX",((.int (252)))),("VECTOR_PREFIX",((.int (253)))),("LEFT_RANGES",((.list [(.tup [(.int (42)),(.int (43))]),(.tup [(.int (56)),(.int (57))]),(.tup [(.int (67)),(.int (68))]),(.tup [(.int (91)),(.int (102))]),(.tup [(.int (139)),(.int (166))]),(.tup [(.int (168)),(.int (171))]),(.tup [(.int (174)),(.int (191))]),(.tup [(.int (64512)),(.int (64519))])]))),("NUMBERS",((.tup [(.tup [(.int (69)),(.int (69)),(.tup [(.int (-1))]),(.tup [(.int (-1))])]),(.tup [(.int (70)),(.int (79)),(.tup [(.int (-1)),(.int (-1))]),(.tup [(.int (-1))])]),(.tup [(.int (80)),(.int (80)),(.tup [(.int (-2))]),(.tup [(.int (-1))])]),(.tup [(.int (81)),(.int (90)),(.tup [(.int (-2)),(.int (-2))]),(.tup [(.int (-1))])]),(.tup [(.int (103)),(.int (105)),(.tup [(.int (-1))]),(.tup [(.int (-1))])]),(.tup [(.int (106)),(.int (120)),(.tup [(.int (-1)),(.int (-1))]),(.tup [(.int (-1))])]),(.tup [(.int (121)),(.int (123)),(.tup [(.int (-2))]),(.tup [(.int (-2))])]),(.tup [(.int (124)),(.int (138)),(.tup [(.int (-2)),(.int (-2))]),(.tup [(.int (-2))])]),(.tup [(.int (167)),(.int (167)),(.tup [(.int (-2))]),(.tup [(.int (-1))])]),(.tup [(.int (172)),(.int (173)),(.tup [(.int (-1))]),(.tup [(.int (-2))])]),(.tup [(.int (192)),(.int (193)),(.tup [(.int (-1))]),(.tup [(.int (-1))])]),(.tup [(.int (194)),(.int (196)),(.tup [(.int (-2))]),(.tup [(.int (-2))])])]))),("PASSIVE",((.int (0)))),("ACTIVE",((.int (1)))),("DECLARED",((.int (2)))),("FUNC_FORM",((.int (96)))),("PREFIXED",((.int (64512)))),("SEVEN",((.int (127)))),("EMPTY_OCTET",((.int (64)))),("BODY",((.int (0)))),("LAST_SUB",((.int (17)))),("DATA_CODES",((.tup [(.int (64520)),(.int (64521))]))),("FLOATS",((.tup [(.int (-3)),(.int (-4))]))),("VECTOR",((.int (-5)))),("GREATEST_ALIGN",((.int (31))))]
noncomputable def gf(x:Str)(n:Nat):Str × D:=(x,.fn n)
noncomputable def GF:List (Str × D):=[gf "_wall" 21,gf "number_kind" 98,gf "form_of" 105,gf "is_block" 112,gf "is_left_out" 117,gf "put_kind" 278,gf "put_kinds" 285,gf "put_limits" 292,gf "put_func_kind" 299,gf "put_table_kind" 306,gf "put_memory_kind" 313,gf "put_global_kind" 320,gf "put_import" 327,gf "put_export" 334,gf "put_block_kind" 341,gf "put_code" 348,gf "put_numbers" 355,gf "put_immediates" 362,gf "put_instruction" 369,gf "write_body" 376,gf "func_index_of" 383,gf "put_elem" 388,gf "put_data" 395,gf "list_at" 404,gf "index_at" 411,gf "want_kept" 418,gf "told_kind" 425,gf "kind_at" 432,gf "ref_kind_at" 439,gf "func_kind_at" 446,gf "limits_at" 453,gf "table_kind_at" 460,gf "memory_kind_at" 467,gf "global_kind_at" 474,gf "import_at" 481,gf "export_at" 488,gf "block_kind_at" 495,gf "want_zero" 502,gf "memarg_at" 509,gf "labels_at" 516,gf "first_immediates_at" 523,gf "immediates_at" 530,gf "code_at" 537,gf "body_at" 544,gf "constant_at" 551,gf "elem_kind_at" 558,gf "elem_at" 563,gf "data_at" 570,gf "utf8_of" 767,gf "head_of" 774,gf "text_of" 782,gf "_law_next" 789,gf "_law_pick" 796,gf "_law_texts" 803,gf "_law_text" 810,gf "_law_index" 817,gf "_law_signed" 824,gf "_law_kind" 831,gf "_law_kinds" 836,gf "_law_limits" 843,gf "_law_constant" 850,gf "_law_elem" 857,gf "_law_data" 862,gf "_law_about" 869,gf "_law_thing" 876,gf "_law_groups" 881,gf "_law_free" 888,gf "_law_own" 895,gf "_law_list" 902,gf "_law_word" 907,gf "_law_body" 914,gf "_law_elem_ways" 919,gf "_law_data_ways" 924,gf "_law_about_told" 931,gf "_law_ways" 936,gf "_law_put" 943,gf "_law_fields" 950,gf "_law_read" 957,gf "_law_cut" 964,gf "_law_broken" 971]
noncomputable def GT:List (Str × D):=GC++GF
noncomputable def BU(l:Array aa)(r:aa→Option D)(k:List D→D):Option D:=cond (nj l.size 1000) ((reads r l.toList).map k) none
noncomputable def rdO(a:Addr)(r:aa→Option D)(o:Obj):Option D:=match o.data with
 | .seq xs _=>cond (o.dict.isNone&&qp o.slots.size 0) (cond (o.cls== .type "tuple") (BU xs r .tup) (cond (o.cls== .type "list") (BU xs r .list) none)) none
 | .func _=>some (.fn a)
 |_=>none
noncomputable def rdD(K:Frag):Nat→aa→Option D
 |n,v=>match v with
  | .none=>some .none
  | .int i _=>some (.int i)
  | .str x _=>some (.str x)
  | .ref a=>match n with
   |0=>none
   |n+1=>(K.lookup a).bind (rdO a (rdD K n))
  |_=>none
theorem Zy{α:Type}{b:Bool}{x:Option α}{a:α}(e:cond b x none=some a):b=true∧x=some a:=by cases b;exact no e;exact⟨rfl,e⟩
section
variable{w:b3}{ν:List Addr}{h:Heap}
theorem Jf{f:aa→Option D}{vs:List aa}{l:List D}(hf:∀v d,f v=some d→DR w ν h d v)(e:reads f vs=some l):ZZ w ν h l vs:=by
 induction vs generalizing l with
 |nil=>cases e;exact .nil
 |cons v vs ih=>exact YB e fun d m e1 e2 q=>q▸ .cons (hf _ _ e1) (ih e2)
theorem uE{f:aa→Option D}{a:Addr}{o:Obj}{d:D}(hf:∀v d,f v=some d→DR w ν h d v)(g:h.get? a=some o)(m:a∉ν)(e:rdO a f o=some d):DR w ν h d (.ref a):=by
 obtain⟨cls,dd,dt,sl⟩:=o
 cases dt with
 |func fd=>cases e;exact .fn a
 |seq xs n=>
  have ⟨b,e⟩:=Zy e
  have ⟨b1,b2⟩:=both b
  cases jy (mu b2)
  cases gm.mp b1
  have go:∀{k:List D→D},BU xs f k=some d→xs.size≤YU∧∃l,reads f xs.toList=some l∧k l=d:=fun e=>⟨ao (cw (Zy e).1) (by decide),bk.mp (Zy e).2⟩
  have e:cond (cls== .type "tuple") _ _=_:=e
  cases q:cls== .type "tuple" with
  |true=>rw[q] at e;cases beq_iff_eq.mp q;exact match go e with|⟨z,l,e1,e2⟩=>e2▸ .tup g m (Jf hf e1) z
  |false=>
   rw[q] at e
   have ⟨q,e⟩:=Zy e
   cases beq_iff_eq.mp q
   exact match go e with|⟨z,l,e1,e2⟩=>e2▸ .list g m (Jf hf e1) z
 |_=>exact no e
theorem BQ{K:Frag}(X:K.In h)(hν:∀a o,K.lookup a=some o→a∉ν){n:Nat}{v:aa}{d:D}(e:rdD K n v=some d):DR w ν h d v:=by
 induction n generalizing v d with
 |zero=>cases v with
  |none=>cases e;exact .none
  |int i t=>cases e;exact .int _ _
  |str i t=>cases e;exact .str _ _
  |_=>exact no e
 |succ n ih=>cases v with
  |none=>cases e;exact .none
  |int i t=>cases e;exact .int _ _
  |str i t=>cases e;exact .str _ _
  |ref a=>exact(av.mp e).elim fun o q=>uE (fun _ _=>ih) (X a o q.1) (hν a o q.1) q.2
  |_=>exact no e
end
theorem Abb(P:b7):GT.map (fun p=>((HF P).nsMap mainGlobals p.1).bind (rdD (KF P) 4))=GT.map (fun p=>some p.2):=by kernel_rfl
noncomputable def Jd(n:Nat):aa:=([.builtin "len",.type "range",.type "tuple",.type "list",.type "bytes",.builtin "min",.builtin "ord",.builtin "chr",.builtin "any",.builtin "sorted"]:List aa).getD n (.type "bytearray")
noncomputable def VP:List (Str × Nat):=[("len",0),("range",1),("tuple",2),("list",3),("bytes",4),("min",5),("ord",6),("chr",7),("any",8),("sorted",9),("bytearray",11)]
theorem E8(P:b7):VP.map (fun p=>((HF P).nsMap mainGlobals p.1,(HF P).nsMap builtinsNs p.1))=VP.map (fun p=>(none,some (Jd p.2))):=by kernel_rfl
theorem BS(P:b7):(HF P).isNs builtinsNs=true:=by kernel_rfl
theorem Pw{α β:Type}{f g:α→β}{l:List α}(h:l.map f=l.map g){x:α}(hx:x∈l):f x=g x:=List.map_inj_left.mp h x hx
section
variable{C:Cx}{c:Cf}{ν:List Addr}{env:Ev}{st:St}{s s':ai}{X:Xp}{x:Str}{p pos:Pos}{A:bz}{E:aa→ai→Prop}{R:aa→ai→Prop}{a:PE}{es:List Expr}{d:D}
theorem Vr(i:c.I ν env st s):s.heap.Ns mainGlobals ((HF c.w.params).nsMap mainGlobals):=(vo (S1 _)).keeps fun b o e=>i.stays b o (i.base b o e)
theorem IY(i:c.I ν env st s):s.heap.Ns builtinsNs ((HF c.w.params).nsMap builtinsNs):=(vo (BS _)).keeps fun b o e=>i.stays b o (i.base b o e)
theorem KF_νB(i:c.I ν env st s){a:Addr}{o:Obj}(h:(KF c.w.params).lookup a=some o):a∉ν:=fun m=>Zj (i.νB a m) (HW i.base a o h) rfl
theorem We(ok:c.Ok)(i:c.I ν env st s)(hk:c.ce.kindOf x=some .globalImplicit)(hd:(x==("__debug__":Str))=false)(hx:(x,d)∈GT)
  (hR:∀cv,DR c.w ν s.heap d cv→R cv s):wpAny c.M A (eval (.Name x p) c.ce) R E s:=
 (av.mp (Pw (Abb c.w.params) hx)).elim fun v q=>j8 ok.kind hk (qu (ok.globals▸Vr i) q.1 (hR _ (BQ i.K (fun a o h=>KF_νB i h) q.2))) hd
theorem WT{b:Nat}(ok:c.Ok)(i:c.I ν env st s)(hk:c.ce.kindOf x=some .globalImplicit)(hd:(x==("__debug__":Str))=false)(hx:(x,b)∈VP)(hR:R (Jd b) s):wpAny c.M A (eval (.Name x p) c.ce) R E s:=
 have e:=q8 (Pw (E8 c.w.params) hx)
 j8 ok.kind hk (xh (ok.globals▸Vr i) e.1 (ok.builtins▸IY i) e.2 hR) hd
theorem Je(ok:c.Ok)(hk:c.ce.kindOf x=some .globalImplicit)(hd:(x==("__debug__":Str))=false)(hx:(x,d)∈GT):ZL C c ν (.Name x p) (.lit d):=fun env st Q X s i hq=>
 up<|We ok i hk hd hx fun cv r=>⟨.d d,_,hq,r,i,.refl _ _⟩
theorem Nt{f:Nat}(ok:c.Ok)(hC:XA C c.r)(hn:noStar es=true)(hf:Sf (KF c.w.params) f=true)(hk:c.ce.kindOf x=some .globalImplicit)(hd:(x==("__debug__":Str))=false)(hx:(x,D.fn f)∈GT)
  (h:YD C c ν es a):ZL C c ν (.Call (.Name x p) es [] pos) (.call f a):=
 BH ok hC hn hf (fun env st s E R i hR=>up<|We ok i hk hd hx fun cv r=>(DR.inv r:cv=_)▸hR) h
end
noncomputable def hU{α:Type}(n:Nat)(lt:Nat→Nat→Bool):KasT α→Option α
 | .ret a=>some a
 | .ask i j k=>cond (jd i n&&(jd j n&& !qp i j)) (hU n lt (k (lt i j))) none
theorem IZ{a b:Nat}(h:jd a b=true):a<b:=cw h
theorem iA{α:Type}{n:Nat}{lt:Nat→Nat→Bool}{cmp:Nat→Nat→(Bool→ai→Prop)→ai→Prop}{s:ai}(hc:∀i j C,i<n→j<n→i≠j→C (lt i j) s→cmp i j C s){t:KasT α}{a:α}{Q:α→ai→Prop}(h:hU n lt t=some a)(q:Q a s):t.kasWp cmp Q s:=by
 induction t with
 |ret b=>cases h;exact q
 |ask i j k ih=>
  have ⟨g,h⟩:=Zy h
  have g2:=both (both g).2
  exact hc i j _ (IZ (both g).1) (IZ g2.1) (fun e=>by rw[e,Nat.beq_refl] at g2;exact nomatch g2.2) (ih _ h)
noncomputable def up3(d e f:Bool):Nat→Nat→Bool
 |0,_=>true
 |1,j=>cond (qp j 2) d e
 |_,_=>f
noncomputable def lt3(d e f:Bool)(i j:Nat):Bool:=cond (jd i j) (up3 d e f i j) (!up3 d e f j i)
noncomputable def goodRun(n:Nat)(lt:Nat→Nat→Bool):Bool:=(hU n lt (kas_sort n)).any fun p=>p.toList.isPerm (fu n)&&p.toList.head?==some 0
theorem runs:∀d e f:Bool,(goodRun 2 (lt3 d e f)&&(goodRun 3 (lt3 d e f)&&goodRun 4 (lt3 d e f)))=true:=by decide+kernel
theorem BV{a b:Int × Int}(h:a≠b):L8 b a= !L8 a b:=by
 unfold L8
 rcases Int.lt_trichotomy a.1 b.1 with q|q|q
 ·rw[decide_eq_true q,decide_eq_false (z9 q),decide_eq_false (w6 q)];rfl
 ·rw[q,decide_eq_false (yi _),decide_eq_true rfl]
  rcases Int.lt_trichotomy a.2 b.2 with r|r|r
  ·rw[decide_eq_true r,decide_eq_false (z9 r)];rfl
  ·exact absurd (Prod.ext q r) h
  ·rw[decide_eq_true r,decide_eq_false (z9 r)];rfl
 ·rw[decide_eq_true q,decide_eq_false (z9 q),decide_eq_false (w6 q)];rfl
inductive Abd(ps:List (Int × Int)):Prop
 |mk (lt:Nat→Nat→Bool) (p:Array Nat) (k:∀i j,i<ps.length→j<ps.length→i≠j→lt i j=L8 (ps.getD i (0,0)) (ps.getD j (0,0))) (r:hU ps.length lt (kas_sort ps.length)=some p) (pm:p.toList.Perm (fu ps.length)) (hd:p.toList.head?=some 0)
theorem Abe{ps:List (Int × Int)}(hd:ps.Nodup){i j:Nat}(ij:i<j)(hj:j<ps.length):ps.getD i (0,0)≠ps.getD j (0,0):=fun q=>by
 have hi:=ua ij hj
 rw[e9,e9,dh hi,dh hj] at q
 exact List.pairwise_iff_getElem.mp hd i j hi hj ij q
theorem Hf{ps:List (Int × Int)}(F:S5 ps)(h2:2≤ps.length):Abd ps:=by
 have g:=runs (L8 (ps.getD 1 (0,0)) (ps.getD 2 (0,0))) (L8 (ps.getD 1 (0,0)) (ps.getD 3 (0,0))) (L8 (ps.getD 2 (0,0)) (ps.getD 3 (0,0)))
 have u:∀i j,i<j→j<ps.length→up3 (L8 (ps.getD 1 (0,0)) (ps.getD 2 (0,0))) (L8 (ps.getD 1 (0,0)) (ps.getD 3 (0,0))) (L8 (ps.getD 2 (0,0)) (ps.getD 3 (0,0))) i j=L8 (ps.getD i (0,0)) (ps.getD j (0,0)):=fun i j hij hj=>by
  have h4:j<4:=gv hj F.le
  match i,hij with
  |0,h=>exact(F.first j h hj).symm
  |1,h=>exact((by decide:∀j,j<4→1<j→j=2∨j=3) j h4 h).elim (fun e=>by cases e;rfl) fun e=>by cases e;rfl
  |2,h=>cases (by decide:∀j,j<4→2<j→j=3) j h4 h;rfl
  |i+3,h=>exact absurd (bq (n9 3 i) h) (r8.mpr (qq h4))
 have fin:goodRun ps.length (lt3 _ _ _)=true→Abd ps:=fun h=>(Zg h).elim fun p q=>⟨_,p,fun i j hi hj ij=>by
  show cond (jd i j) _ _=_
  cases e:jd i j with
  |true=>exact u i j (IZ e) hj
  |false=>
   have ji:j<i:=sq (r8.mp fun q=>by rw[show jd i j=true from zu q] at e;cases e) (Ne.symm ij)
   show(!_)=_
   rw[u j i ji hi,BV (Abe F.nd ji hi)],q.1,List.isPerm_iff.mp (both q.2).1,beq_iff_eq.mp (both q.2).2⟩
 have hl:=(by decide:∀n,n<5→2≤n→n=2∨n=3∨n=4) ps.length (Nat.lt_succ_of_le F.le) h2
 rcases hl with e|e|e
 ·exact fin (e▸(both g).1)
 ·exact fin (e▸(both (both g).2).1)
 ·exact fin (e▸(both (both g).2).2)
inductive WA(h:Heap)(v:aa)(p:Int × Int):Prop
 |mk (a n:Nat) (t u:Tok) (e:v= .ref a) (g:h.get? a=some (TV #[.int p.1 t,.int p.2 u] n))
section
variable{prog:k9}{w:b3}{A:bz}{E:aa→ai→Prop}{s:ai}
theorem Aeg{a b:Int × Int}(e:¬(a.1==b.1)=true):L8 a b=decide (a.1<b.1):=by unfold L8;rw[decide_eq_false (p:=a.1=b.1) fun q=>e (beq_iff_eq.mpr q)];exact ye _
theorem Abf{a b:Int × Int}(e:(a.1==b.1)=true):L8 a b=decide (a.2<b.2):=by unfold L8;rw[decide_eq_true (p:=a.1=b.1) (beq_iff_eq.mp e),beq_iff_eq.mp e,decide_eq_false (yi _)];rfl
theorem Hh{v v':aa}{a b:Int × Int}{Q:Bool→ai→Prop}(hx:WA s.heap v a)(hy:WA s.heap v' b)(h:Q (L8 a b) s):wpAny (model prog w) A (keyLt' (tuples' true) v v') Q E s:=
 match hx,hy with
 |⟨x,n,t,u,e,hx⟩,⟨y,n',t',u',e',hy⟩=>e▸e'▸kat_lt hx rfl hy rfl (show KatLex prog w A true false Q [(.int a.1 t,.int b.1 t'),(.int a.2 u,.int b.2 u')] 0 s from
  kat_cons (wpAny_eqBool_int (kat_go (fun e=>kat_yes (kat_cons (wpAny_eqBool_int (kat_go (fun e2=>kat_yes (kat_nil (by rw[Abf e,beq_iff_eq.mp e2,decide_eq_false (yi _)] at h;exact h))) fun e2=>kat_no (kat_one _ _ (A0i (Abf e▸h)))))))
   fun e=>kat_no (oneLt_int (Aeg (fun q=>by rw[q] at e;cases e)▸h)))))
theorem kat_pairs{h:Heap}{vs:List aa}(H:∀v∈vs,∃p,WA h v p):∃fs,KatTups h vs fs∧fs.length=vs.length∧∀v∈fs,∃x t,v=A0c x t:=by
 induction vs with
 |nil=>exact⟨[],.nil,rfl,fun _ h=>nomatch h⟩
 |cons v vs ih=>
  have ⟨h0,h1⟩:=nr.mp H
  exact match h0,ih h1 with
  |⟨p,a,n,t,u,e,g⟩,⟨fs,k1,k2,k3⟩=>e▸⟨.int p.1 t::fs,.cons g rfl rfl rfl k1,congrArg (· +1) k2,nr.mpr ⟨⟨_,_,rfl⟩,k3⟩⟩
theorem sz4{m:Nat}(h:m≤4):m≤sizeLine:=ao h (by rw[xy];decide)
noncomputable abbrev Hg(vs:List aa)(p:List Nat):Array aa:=(p.map fun i=>vs.getD i .none).toArray
structure Nu(n:Nat)(p:List Nat):Prop where
 pm:p.Perm (fu n)
 hd:p.head?=(fu n).head?
theorem GQ{vs:List aa}(h:vs.toArray.size<2):((vs.toArray.zip vs.toArray).map (·.2))=Hg vs (fu vs.length):=by
 match vs,h with
 |[],_=>simp [Hg]
 |[v],_=>simp [Hg]
 |_::_::r,h=>exact absurd h (r8.mpr (n9 2 r.length))
theorem WA.to{h h':Heap}{v:aa}{p:Int × Int}(x:WA h v p)(k:∀b o,v= .ref b→h.get? b=some o→h'.get? b=some o):WA h' v p:=match x with|⟨a,n,t,u,e,g⟩=>⟨a,n,t,u,e,k _ _ e g⟩
theorem Jg{n:Nat}{vs:List aa}{p:List Nat}(hn:vs.length≤4)(h:Nu vs.length p):(Hg vs p).size≤sizeLine+1:=by
 rw[je,aq,h.pm.length_eq,gr];exact nq (sz4 hn)
theorem iB{a:Addr}{vs:List aa}{ps:List (Int × Int)}{n:Nat}{P:PySem.Fin→ai→Prop}(ho:s.heap.get? a=some (seqObj "list" vs.toArray n))(hl:ps.length=vs.length)(F:S5 ps)
  (hp:∀i,i<vs.length→WA s.heap (vs.getD i .none) (ps.getD i (0,0)))
  (h:∀p:List Nat,Nu vs.length p→P (.done (.ret .none)) {s with heap:=sortedHeap s.heap a vs (Hg vs p)}):
  wpAny (model prog w) A (jt.«list.sort» ⟨[.ref a],[]⟩) P E s:=by
 rw[list_sort_plain]
 have hn:vs.length≤4:=hl▸F.le
 have ha:a<s.heap.objs.size:=gq ho
 refine ak (listItems_at ho rfl ?_)
 refine ak (listUpdate_at ho rfl ?_ (by rw[je];exact sz4 hn) (ie _))
 have ho1:=zp ho (fun _=> #[])
 generalize (if (#[]:Array aa).size==vs.toArray.size then n else n+1)=e1 at ho1
 refine ak (seqEpoch_at ho1 rfl ?_)
 refine ak (wpAny_newTuple ?_ (by show vs.toArray.toList.length≤_;exact sz4 hn))
 refine ak (A0p ?_ (ie _))
 refine o5 ?_
 have ho6:=au (seqObj "list" #[] 0) (au (seqObj "tuple" vs.toArray 0) ho1)
 have hp6:∀i,i<vs.length→WA (((s.heap.update a (o6 fun _=> #[])).push (seqObj "tuple" vs.toArray 0)).push (seqObj "list" #[] 0)) (vs.getD i .none) (ps.getD i (0,0)):=fun i hi=>
  (hp i hi).to fun b o e g=>au _ (au _ ((dm _ _ fun q=>by
   cases hp i hi with|mk a' n' t u e' g'=>rw[e] at e';cases e';rw[← q,ho] at g';exact absurd (A2i (congrArg Obj.cls (bh g'))) (by decide)).trans g))
 have h:∀p:List Nat,Nu vs.length p→P (.done (.ret .none)) {s with heap:=(((s.heap.update a (o6 fun _=> #[])).push (seqObj "tuple" vs.toArray 0)).push (seqObj "list" #[] 0)).update a (o6 fun _=>Hg vs p)}:=h
 clear ho hp
 show wpAny (model prog w) A _ P E {s with heap:=((s.heap.update a (o6 fun _=> #[])).push (seqObj "tuple" vs.toArray 0)).push (seqObj "list" #[] 0)}
 generalize ((s.heap.update a (o6 fun _=> #[])).push (seqObj "tuple" vs.toArray 0)).push (seqObj "list" #[] 0)=H at*
 dsimp only
 by_cases h2:vs.toArray.size<2
 ·rw[if_pos h2,if_pos h2]
  refine ak (bg ?_)
  rw[StateT.run_pure]
  have p0:Nu vs.length (fu vs.length):=⟨.refl _,rfl⟩
  refine ak (bg (ak (seqEpoch_at ho6 rfl (ak (listUpdate_at ho6 rfl ?_ (ie _) (by show((vs.toArray.zip vs.toArray).map (·.2)).size≤_;rw[GQ h2];exact Jg (n:=0) hn p0))))))
  rw[if_neg (by simp)]
  refine bg ?_
  have:=h _ p0
  rw[← GQ h2] at this
  exact this
 ·rw[if_neg h2,if_neg h2]
  have hv2:2≤vs.length:=by rw[je] at h2;exact r8.mp h2
  cases Hf F (hl▸hv2) with
  |mk lt p q1 q2 q3 q4=>
  rw[hl] at q1 q2 q3
  have p0:Nu vs.length p.toList:=⟨q3,q4.trans (by obtain⟨m,e⟩:∃m,vs.length=m+1:=⟨_,(Nat.succ_pred_eq_of_pos (gv Nat.zero_lt_two hv2)).symm⟩;rw[e,List.range_succ_eq_map];rfl)⟩
  obtain⟨fs,k1,k2,k3⟩:=kat_pairs (vs:=vs) fun v hv=>by
   obtain⟨i,hi,e⟩:=List.mem_iff_getElem.mp hv
   have:=hp6 i hi
   rw[e9,dh hi,Option.getD_some,e] at this
   exact⟨_,this⟩
  refine ak (kat_kind (T:= .type "int") k1 (k2▸gv Nat.zero_lt_two hv2) (fun v hv=>(k3 v hv).elim fun x q=>q.elim fun t e=>e▸A0s rfl) rfl ?_)
  refine ak (o4 (kat_run (ks:=vs) (vs:=vs) (E:=E) (Q:=fun st' s'=>(arrOf st'=p.map (kas_item (vs.toArray.zip vs.toArray))∧failedOf st'=none)∧s'={s with heap:=H})
   (G:=fun p' s'=>p'=p∧s'={s with heap:=H}) rfl hv2 (bq hn (by decide)) (fun p' st' s' a1 a2 a3 a4=>⟨⟨a4.1▸a2,a3⟩,a4.2⟩) (iA (fun i j C hi hj ij hC=>Hh (hp6 i hi) (hp6 j hj) (q1 i j hi hj ij▸hC)) q2 ⟨rfl,rfl⟩)) ?_ fun _ _ e=>e)
  rintro ⟨⟨⟩,st'⟩ s' ⟨⟨har,hf⟩,e⟩
  cases e
  refine ak (seqEpoch_at ho6 rfl ?_)
  rw[kat_snds (ks:=vs) (vs:=vs) rfl har]
  refine ak (listUpdate_at ho6 rfl ?_ (ie _) (Jg (n:=0) hn p0))
  rw[hf,if_neg (by simp)]
  exact bg (h _ p0)
end
section
variable{prog:k9}{w:b3}{A:bz}{E:aa→ai→Prop}{s:ai}
theorem EB{l:Addr}{vs:List aa}{ps:List (Int × Int)}{Q:aa→ai→Prop}(hl:s.heap.IsList l vs.toArray)(hlen:ps.length=vs.length)(F:S5 ps)(hp:∀i,i<vs.length→WA s.heap (vs.getD i .none) (ps.getD i (0,0)))
  (h:∀(p:List Nat) D h' n,(∀b o,s.heap.get? b=some o→h'.get? b=some o)→s.heap.get? D=none→h'.get? D=some (seqObj "list" (Hg vs p) n)→Nu vs.length p→Q (.ref D) {s with heap:=h'}):
  wpAny (model prog w) A (call (.builtin "sorted") [.ref l]) Q E s:=by
 have hn:vs.length≤sizeLine:=sz4 (hlen▸F.le)
 refine Calls.call_function_entry kind_sorted plain_sorted entry_sorted (args_sorted1 _) ?_
 unfold jt.«sorted»
 refine ak (m:=checkCount "sorted" 1 1 _) (bg (ak (collect_list hl ?_ hn)))
 refine ak (A0p ?_ hn)
 have hL:∀b o,s.heap.get? b=some o→((s.heap.push (seqObj "list" #[] 0)).update s.heap.objs.size (o6 (· ++vs.toArray))).get? b=some o:=fun b o q=>by
  have hlt:=ir (gq q)
  rw[Heap.get?_update_ne _ _ _ _ hlt,Heap.get?_push_ne _ _ _ hlt];exact q
 have hs:s.heap.get? ((s.heap.push (seqObj "list" #[] 0)).update s.heap.objs.size (o6 (· ++vs.toArray))).objs.size=none:=l9 (by rw[Heap.size_update,size_push'];exact pq _)
 show wpAny _ _ _ _ _ {s with heap:=((s.heap.push (seqObj "list" #[] 0)).update s.heap.objs.size (o6 (· ++vs.toArray))).push (seqObj "list" vs.toArray 0)}
 generalize (s.heap.push (seqObj "list" #[] 0)).update s.heap.objs.size (o6 (· ++vs.toArray))=H0 at hL hs ⊢
 have hoL:(H0.push (seqObj "list" vs.toArray 0)).get? H0.objs.size=some (seqObj "list" vs.toArray 0):=b9 _ rfl
 have keep:∀b o,s.heap.get? b=some o→(H0.push (seqObj "list" vs.toArray 0)).get? b=some o:=fun b o q=>au _ (hL b o q)
 generalize H0.push (seqObj "list" vs.toArray 0)=H at hoL keep ⊢
 refine ak (o5 (wpAny_call_entry slot_list_sort ⟨_,hoL,rfl⟩ entry_list_sort ?body (args_list_sort _)))
 refine iB (s:={s with heap:=H}) hoL hlen F (fun i hi=>(hp i hi).to fun b o _ g=>keep b o g) fun p p1=>⟨_,rfl,bg ⟨_,rfl,?_⟩⟩
 refine h p _ _ _ (fun b o q=> ?_) hs (zp (au _ (au _ (zp hoL (fun _=> #[])))) (fun _=>_)) p1
 have hne:H0.objs.size≠b:=fun e=>Zj hs q e
 exact(dm _ _ hne).trans (au _ (au _ ((dm _ _ hne).trans (keep b o q))))
end
section
variable{c:Cf}{ν:List Addr}{env:Ev}{st:St}{s s':ai}
structure mO(w:b3)(ν:List Addr)(h:Heap)(v:aa)(p:Int × Int):Prop where
 at_:WA h v p
 d:DR w ν h (pairD p) v
theorem uF{w:b3}{h:Heap}{v:aa}{p:Int × Int}(x:DR w ν h (pairD p) v):mO w ν h v p:=⟨match x.inv with
 |⟨a,xs,n,e,g,m,r,z⟩=>by
  obtain⟨xs⟩:=xs
  cases r with
  |cons q1 r=>cases r with
   |cons q2 r=>cases r with
    |nil=>exact match q1.inv,q2.inv with|⟨t,e1⟩,⟨u,e2⟩=>⟨a,n,t,u,e,by rw[g,e1,e2]⟩,x⟩
structure BW(w:b3)(ν:List Addr)(h:Heap)(vs:List aa)(ps:List (Int × Int)):Prop where
 l:ps.length=vs.length
 r:∀i,i<vs.length→mO w ν h (vs.getD i .none) (ps.getD i (0,0))
theorem pairs_at{w:b3}{h:Heap}{l:List D}{ps:List (Int × Int)}{vs:List aa}(e:pairsOf l=some ps)(x:ZZ w ν h l vs):BW w ν h vs ps:=
 ZZ.reads (R:=BW w ν h) ⟨rfl,fun i hi=>absurd hi (vn _)⟩ (fun d p v vs ps q r y=>⟨congrArg (· +1) y.l,fun i hi=>by
  cases i with
  |zero=>exact uF (Ce q▸r)
  |succ i=>exact y.r i (gg hi)⟩) e x
theorem range_getD{α:Type}(l:List α)(d:α):(fu l.length).map (fun i=>l.getD i d)=l:=by
 apply List.ext_getElem
 ·simp
 ·intro i h1 h2
  simp [e9,h2]
theorem E9{l:List D}{v:aa}{ps:List (Int × Int)}{A:bz}{E:aa→ai→Prop}{R:aa→ai→Prop}{K:S→Prop}(a:DR c.w ν s.heap (.list l) v)(i:c.I ν env st s)(e:pairsOf l=some ps)(F:S5 ps)
  (h:∀qs:List (Int × Int),qs.Perm ps→qs.head?=ps.head?→K (.d (.list (qs.map pairD))))
  (hR:∀sv cv s',K sv→c.SR ν s'.heap sv cv→KS s s'→R cv s'):wpAny c.M A (PySem.call (.builtin "sorted") [v]) R E s:=
 match a.inv with
 |⟨x,⟨xs⟩,n,e',g1,g2,g3,g4⟩=>by
  have y:=pairs_at e g3
  refine e'▸EB ⟨_,g1,rfl,n,rfl⟩ y.l F (fun i hi=>(y.r i hi).at_) fun p D h' m kk nD eD pp=> ?_
  refine hR (.d (.list ((p.map fun i=>ps.getD i (0,0)).map pairD))) _ _ (h _ ?_ ?_) (DR.list eD (fun q=>(i.live D q).elim fun o q=>Zj nD q.1 rfl) ?_ ?_) ⟨h',s.toks,rfl,kk⟩
  ·exact(pp.pm.map fun i=>ps.getD i (0,0)).trans (by rw[← y.l,range_getD])
  ·rw[List.head?_map,pp.hd,← List.head?_map,← y.l,range_getD]
  ·have pm:∀i∈p,i<xs.length:=fun i hi=>l5.mp (pp.pm.mem_iff.mp hi)
   show ZZ c.w ν h' ((p.map fun i=>ps.getD i (0,0)).map pairD) (p.map fun i=>xs.getD i .none)
   clear pp eD
   induction p with
   |nil=>exact .nil
   |cons j p ih=>exact .cons ((y.r j (pm j (.head _))).d.keeps kk) (ih fun i hi=>pm i (.tail _ hi))
  ·rw[je,aq,pp.pm.length_eq,gr,← y.l]
   exact ao F.le (by decide)
end
section
variable{s:ai}
theorem Px:ju (.type "bytes") "__bytes__"=pure (some (.builtin "bytes.__bytes__")):=by rw[gk,dj];kernel_rfl
theorem Ji:ju (.type "bytearray") "__bytes__"=pure none:=by rw[gk,dj];kernel_rfl
theorem Jh:ju (.type "bytearray") "__index__"=pure none:=by rw[gk,dj];kernel_rfl
theorem Vs:ju (.type "bytearray") "__buffer__"=pure (some (.builtin "bytearray.__buffer__")):=by rw[gk,dj];kernel_rfl
section
variable{A:bz}{E:aa→ai→Prop}{Q:aa→ai→Prop}{prog:k9}{w:b3}
theorem uG{b:Array UInt8}{t:Tok}(h:Q (.bytes b t) s):codeAny (model prog w) A (.call (.builtin "bytes.__new__") ⟨[.type "bytes",.bytes b t],[]⟩) (wants Q E) s:=by
 refine vp ?_
 show wpAny _ A.in1 (do jb "bytes.__new__" ⟨[.type "bytes",.bytes b t],[]⟩;again (.builtin "bytes.__new__" ⟨[.type "bytes",.bytes b t],[]⟩)) _ _ s
 refine ak (iz (F.bm_newCall _) (bg ⟨qk F.bm_plain _,codeAny_builtin F.bm_entry ?_⟩))
 rw[lg F.bm_plain _]
 unfold jt.«bytes.__new__»
 refine ak (iz (a:=true) rfl ?_)
 refine j9 rfl ?_
 refine ak (iz F.bm_sub ?_)
 refine j9 rfl ?_
 refine ak (iz (F.bm_bind _) ?_)
 refine ak (iz (a:=()) rfl ?_)
 refine ak (iz (a:=()) rfl ?_)
 refine j9 rfl ?_
 refine ak (fj (j0 _ b t) Px ?_)
 refine ak (wpAny_rule ?_)
 refine ak (wpAny_typeOf (j0 _ b t) ?_)
 refine zb rfl ?_
 refine zb rfl ?_
 exact bg h
theorem SW{b:Array UInt8}{t:Tok}(h:Q (.bytes b t) s):wpAny (model prog w) A (PySem.call (.type "bytes") [.bytes b t]) Q E s:=by
 refine callType_codes (Q₁:=fun obj s₁=>s₁.TypeIs obj "bytes"∧Q obj s₁) F.bm_called (F.bm_typeCall _) F.entry_object_init
  (uG ⟨j0 _ _ _,h⟩) fun obj s₁ h₁=> ?_
 exact⟨h₁.1,F.args_object_init_2 obj _,object_init_meets F.bm_called.init.lookup F.bm_called.made (by decide) prog w A.in1 _ s₁ ⟨h₁.1,rfl,h₁.2⟩⟩
theorem OA:ju (.type "bytearray") "__release_buffer__"=pure (some (.builtin "bytearray.__release_buffer__")):=by rw[gk,dj];kernel_rfl
theorem MF:isSubtype (.type "bytearray") (.type "bytearray")=pure true:=by rw[oq];kernel_rfl
theorem own_buffer{x:Addr}{R:Bool→ai→Prop}(hT:s.TypeIs (.ref x) "bytearray")(h:R true s):wpAny (model prog w) A (jn (.ref x) "__buffer__") R E s:=by
 unfold jn
 refine ak (fj hT Vs ?_)
 refine j9 (by decide+kernel) ?_
 exact rm hT (by rw[show(("bytearray.__buffer__":String).dropRight (("__buffer__":String).length+1))="bytearray" by decide+kernel];exact MF) h
theorem own_release{x:Addr}{R:Bool→ai→Prop}(hT:s.TypeIs (.ref x) "bytearray")(h:R false s):wpAny (model prog w) A (o7 (.ref x)) R E s:=by
 unfold o7 jn
 refine ak (ak (fj hT OA ?_))
 refine j9 (by decide+kernel) ?_
 exact rm hT (by rw[show(("bytearray.__release_buffer__":String).dropRight (("__release_buffer__":String).length+1))="bytearray" by decide+kernel];exact MF) (bg (a:= !true) (Q:=R) h)
theorem iC{x:Addr}{b:Array UInt8}(hx:s.heap.get? x=some (Wc b))(hz:b.size≤YU)(h:∀t k,Q (.bytes b t) {s with toks:=k}):codeAny (model prog w) A (.call (.builtin "bytes.__new__") ⟨[.type "bytes",.ref x],[]⟩) (wants Q E) s:=by
 refine vp ?_
 show wpAny _ A.in1 (do jb "bytes.__new__" ⟨[.type "bytes",.ref x],[]⟩;again (.builtin "bytes.__new__" ⟨[.type "bytes",.ref x],[]⟩)) _ _ s
 refine ak (iz (F.bm_newCall _) (bg ⟨qk F.bm_plain _,codeAny_builtin F.bm_entry ?_⟩))
 rw[lg F.bm_plain _]
 have hT:s.TypeIs (.ref x) "bytearray":=⟨_,hx,rfl⟩
 unfold jt.«bytes.__new__»
 refine ak (iz (a:=true) rfl ?_)
 refine j9 rfl ?_
 refine ak (iz F.bm_sub ?_)
 refine j9 rfl ?_
 refine ak (iz (F.bm_bind _) ?_)
 refine ak (iz (a:=()) rfl ?_)
 refine ak (iz (a:=()) rfl ?_)
 refine j9 rfl ?_
 refine ak (fj hT Ji ?_)
 refine ak (ak ?_)
 show wpAny _ _ (load x>>=_) _ _ _
 refine ak (nu hx ?_)
 refine bg (bg ?_)
 refine j9 rfl ?_
 refine ak (fj hT Jh ?_)
 refine zb rfl ?_
 first
  |show wpAny _ _ (ql "bytes.__new__" (.ref x) true>>=_) _ _ _
  |(refine ak ?_;show wpAny _ _ (ql "bytes.__new__" (.ref x) true>>=_) _ _ _)
 refine ak ?_
 unfold ql
 refine ak (fj hT Vs ?_)
 refine ak (own_buffer hT ?_)
 refine j9 rfl ?_
 refine ak (fj hT Vs ?_)
 refine ak (own_release hT ?_)
 refine j9 rfl ?_
 refine ak ?_
 unfold qm
 refine ak ?_
 unfold uc
 refine ak (nu hx ?_)
 refine bg (bg (bg ?_))
 refine ak (wpAny_rule ?_)
 refine ak (wpAny_mkBytes ?_ hz)
 refine zb rfl ?_
 exact bg (h _ _)
theorem U5{x:Addr}{b:Array UInt8}(hx:s.heap.get? x=some (Wc b))(hz:b.size≤YU)(h:∀t k,Q (.bytes b t) {s with toks:=k}):wpAny (model prog w) A (PySem.call (.type "bytes") [.ref x]) Q E s:=by
 refine callType_codes (Q₁:=fun obj s₁=>s₁.TypeIs obj "bytes"∧Q obj s₁) F.bm_called (F.bm_typeCall _) F.entry_object_init
  (iC hx hz fun t k=>⟨j0 _ _ _,h t k⟩) fun obj s₁ h₁=> ?_
 exact⟨h₁.1,F.args_object_init_2 obj _,object_init_meets F.bm_called.init.lookup F.bm_called.made (by decide) prog w A.in1 _ s₁ ⟨h₁.1,rfl,h₁.2⟩⟩
end
end
theorem Xf{l:List S}{K:S→Prop}{P:Prop}(h:L7 l K)(k:∀a,l=[a]→K a→P):P:=by
 match l,h with
 |[a],h=>exact k a rfl h
theorem BX{l:List S}{K:S→S→Prop}{P:Prop}(h:on2 l K)(k:∀a b,l=[a,b]→K a b→P):P:=by
 match l,h with
 |[a,b],h=>exact k a b rfl h
section
variable{C:Cx}{c:Cf}{ν:List Addr}{env:Ev}{st:St}{s s':ai}{X:Xp}{E:aa→ai→Prop}{R:aa→ai→Prop}{a:S}{v:aa}{K:S→Prop}{svs:List S}{cvs:List aa}
theorem UT{P:List aa→Prop}(r:SS c ν s.heap [a] cvs)(k:∀v,c.SR ν s.heap a v→P [v]):P cvs:=by cases r with|cons x r=>cases r;exact k _ x
theorem Abg{b:S}{P:List aa→Prop}(r:SS c ν s.heap [a,b] cvs)(k:∀v u,c.SR ν s.heap a v→c.SR ν s.heap b u→P [v,u]):P cvs:=by cases r with|cons x r=>cases r with|cons y r=>cases r;exact k _ _ x y
def BR(c:Cf)(ν:List Addr)(s:ai)(K:S→Prop)(R:aa→ai→Prop):Prop:=∀sv cv s',K sv→c.SR ν s'.heap sv cv→KS s s'→R cv s'
theorem BR.d{cv:aa}{d:D}(h:BR c ν s K R)(k:K (.d d))(r:DR c.w ν s'.heap d cv)(g:KS s s'):R cv s':=h (.d d) cv s' k r g
abbrev BO(c:Cf)(ν:List Addr)(s:ai)(f:aa)(K:S→Prop)(cvs:List aa):Prop:=∀E R,BR c ν s K R→wpAny c.M c.A (PySem.call f cvs) R E s
theorem Py{ns:List Int}(h:ns.all ZR=true):Rt (byteArr ns)=ns:=by
 unfold Rt byteArr
 rw[ko]
 refine(List.map_congr_left fun n hn=> ?_).trans (wg ns)
 have b:=both (az.mp h n hn)
 have h1:=of_decide_eq_true b.1
 have h2:=of_decide_eq_true b.2
 show((n.toNat.toUInt8).toNat:Int)=n
 rw[show(n.toNat.toUInt8).toNat=n.toNat%256 by simp,Nat.mod_eq_of_lt (by omega),A0g h1]
theorem small{n:Nat}(h:n≤YU):(n:Int)<2^63:=mj (kh.mpr h) (by decide)
theorem mP{l:List D}{x:Addr}{xs:Array aa}{n:Nat}(g:s.heap.get? x=some (Zo xs n))(r:ZZ c.w ν s.heap l xs.toList)(z:xs.size≤YU)(h:K (.d (.int l.length))):BO c ν s (.builtin "len") K [.ref x]:=fun E R hR=>
 PyProof.Rows.len_list ⟨_,g,rfl,_,rfl⟩ (small z) (hR.d (r.size▸h) (DR.int _ _) (KS.tok _ _))
theorem uL(r:c.SR ν s.heap a v)(h:Aap a K):BO c ν s (.builtin "len") K [v]:=by
 cases a with
 |own l=>exact match r with|⟨x,xs,n,e,g,r,z,_⟩=>e▸mP g r z h
 |d d=>cases d with
  |list l=>exact match DR.inv r with|⟨x,xs,n,e,g,_,r,z⟩=>e▸mP g r z h
  |tup l=>
   have h:K (.d (.int l.length)):=h
   exact match DR.inv r with|⟨x,xs,n,e,g,_,r,z⟩=>e▸fun E R hR=>PyProof.Rows.len_tuple ⟨_,g,rfl,_,rfl⟩ (small z) (hR.d (r.size▸h) (DR.int _ _) (KS.tok _ _))
  |bytes l=>
   have h:K (.d (.int l.length)):=h
   exact match DR.inv r with|⟨b,t,e,q,z⟩=>e▸fun E R hR=>len_bytes (ao z (by decide)) (hR.d ((show l.length=b.size by rw[← q,aq,ez])▸h) (DR.int _ _) (KS.tok _ _))
  |_=>exact False.elim h
 |_=>exact False.elim h
theorem uJ{l:List D}{x:Addr}{xs:Array aa}{n:Nat}(i:c.I ν env st s)(g:s.heap.get? x=some (Zo xs n))(r:ZZ c.w ν s.heap l xs.toList)(z:xs.size≤YU)(h:K (.d (.tup l))):BO c ν s (.type "tuple") K [.ref x]:=fun E R hR=>
 call_tuple_list (items:=xs) ⟨_,g,rfl,_,rfl⟩ (fun h' k=>by
  have k1:KS s {s with heap:=h'.push (TV xs 0)}:=⟨_,s.toks,rfl,fun b o e=>au _ (k b o e)⟩
  exact hR.d h (DR.tup (b9 _ rfl) (fun hm=>(i.live _ hm).elim fun o e=>kj _ (gq (k _ _ e.1))) (r.keeps k1.keeps) z) k1) z
theorem iE{K:List D→Prop}{P:aa→Prop}(r:c.SR ν s.heap a v)(h:Aan a K)(k:∀l x xs n,s.heap.get? x=some (Zo xs n)→ZZ c.w ν s.heap l xs.toList→xs.size≤YU→K l→P (.ref x)):P v:=by
 cases a with
 |own l=>exact match r with|⟨x,xs,n,e,g,r,z,_⟩=>e▸k l x xs n g r z h
 |d d=>exact GJ h fun l q h=>by cases q;exact match DR.inv r with|⟨x,xs,n,e,g,_,r,z⟩=>e▸k l x xs n g r z h
 |_=>exact False.elim h
theorem Aa{l:List D}{ns:List Int}{x:Addr}{xs:Array aa}{n:Nat}(ok:c.Ok)(g:s.heap.get? x=some (Zo xs n))(r:ZZ c.w ν s.heap l xs.toList)(z:xs.size≤YU)(e:YQ l=some ns)(hb:ns.all ZR=true)(h:K (.d (.bytes ns))):
  BO c ν s (.type "bytes") K [.ref x]:=fun E R hR=>by
 have hi:=r.ints e
 refine call_bytes_ints (l:=x) (vs:=xs.toList) (ns:=ns) ⟨_,g,rfl,n,rfl⟩ hi (fun n hn=> ?_) (by rw[ez];exact z) ok.handled fun h' t k hk=> ?_
 ·have b:=both (az.mp hb n hn)
  exact⟨of_decide_eq_true b.1,of_decide_eq_true b.2⟩
 ·have d:=DR.bytes (w:=c.w) (ν:=ν) (h:=h') (byteArr ns) t (by rw[zc,← hi.length,ez];exact z)
  rw[Py hb] at d
  exact hR.d h d ⟨_,_,rfl,hk⟩
theorem uK(ok:c.Ok)(r:c.SR ν s.heap a v)(h:Aak a K):BO c ν s (.type "bytes") K [v]:=by
 cases a with
 |X4 l=>exact match r with|⟨x,arr,e,g,q,z,_⟩=>e▸fun E R hR=>U5 g z fun t k=>hR.d h (q▸DR.bytes _ _ z) (KS.tok _ _)
 |own l=>exact match r with|⟨x,xs,n,e,g,r,z,_⟩=>e▸Zw h fun ns q h=>Aa ok g r z q (Zk h).1 (Zk h).2
 |d d=>cases d with
  |bytes l=>exact match DR.inv r with|⟨b,t,e,q,z⟩=>e▸fun E R hR=>SW (hR.d h (q▸DR.bytes _ _ z) (KS.refl _))
  |list l=>exact match DR.inv r with|⟨x,xs,n,e,g,_,r,z⟩=>e▸Zw h fun ns q h=>Aa ok g r z q (Zk h).1 (Zk h).2
  |_=>exact False.elim h
 |_=>exact False.elim h
theorem Ac{w:b3}{h:Heap}{l:List D}{bs:List Bool}{vs:List aa}(e:boolsOf l=some bs)(x:ZZ w ν h l vs):vs=bs.map A0z:=
 ZZ.reads (R:=fun vs bs=>vs=bs.map A0z) rfl (fun d a v vs as q r y=>((Ch q▸r:DR w ν h (.bool a) v).inv:v= .bool a)▸congrArg (A0z a:: ·) y) e x
theorem BZ(bs:List Bool):(fu bs.length).any (fun i=>bs.getD i false)=bs.any id:=by
 rw[Bool.eq_iff_iff,List.any_eq_true,List.any_eq_true]
 constructor
 ·rintro ⟨i,h1,h2⟩
  rw[l5] at h1
  rw[e9,dh h1] at h2
  exact⟨_,yv h1,h2⟩
 ·rintro ⟨b,h1,h2⟩
  refine aj fun hn=> ?_
  obtain⟨i,h3,rfl⟩:=List.getElem_of_mem h1
  refine hn (⟨i,l5.mpr h3,?_⟩)
  rw[e9,dh h3];exact h2
theorem uI{x:Addr}{xs:Array aa}{n:Nat}{bs:List Bool}{A:bz}(hh:A.handled=none)(g1:s.heap.get? x=some (Zo xs n))(e:xs.toList=bs.map A0z)
  (h:∀h' t,(∀b o,s.heap.get? b=some o→h'.get? b=some o)→R (.bool (bs.any id)) {s with heap:=h',toks:=t}):wpAny c.M A (PySem.call (.builtin "any") [.ref x]) R E s:=by
 have hl:s.heap.IsList x xs:=⟨_,g1,rfl,_,rfl⟩
 have hne:x≠s.heap.objs.size:=ir (gq g1)
 have hsz:xs.size=bs.length:=by rw[← ez,e,aq]
 refine call_any_walk (y9 hl ⟨s.heap.objs.size,[s.heap.objs.size,x],[s.heap.objs.size],xs.size,_,_,fun i=>bs.getD i false,rfl,Walks.list (by exact hh) _ x hne xs,⟨⟨_,b9 _ rfl,rfl,rfl⟩,hl.push _⟩,fun i v s' Q E' hP hQ=> ?_,fun h' tk k=> ?_⟩)
 ·have hv:xs.toList[i]?=some v:=fq.trans hP
  rw[e,f9] at hv
  refine aj fun hn=> ?_
  obtain⟨b,b1,hv⟩:=bk.mp hv
  have hQ:Q (bs.getD i false) s':=hQ
  rw[e9,b1] at hQ
  exact hn (hv▸wpAny_truthy_bool hQ)
 ·rw[hsz,BZ]
  exact h _ _ fun b o hb=>k b o (by simp;exact ir (gq hb)) (au _ hb)
theorem BY{x:Str}{cp:Nat}(e:x.cps.toList=[cp]):x=⟨#[cp]⟩:=by obtain⟨a⟩:=x;obtain⟨l⟩:=a;exact congrArg (fun l=>Str.mk (gh l)) e
theorem iD(r:c.SR ν s.heap a v)(h:onStr a fun s=>match s.cps.toList with|[c]=>K (.d (.int c))|_=>No):BO c ν s (.builtin "ord") K [v]:=
 Se (P:=fun v=>BO c ν s (.builtin "ord") K [v]) h r fun x t h E R hR=>by
  match e:x.cps.toList,h with
  |[cp],h=>cases BY e;exact P.ord_of_char (hR.d h (DR.int _ _) (KS.tok _ _))
theorem uH{b:Nat}(hb10:b≠10)(ok:c.Ok)(i:c.I ν env st s)(r:SS c ν s.heap svs cvs)(h:Aav b svs K):BO c ν s (Jd b) K cvs:=by
 match b,h with
 |0,h=>exact Xf h fun a e h=>by subst e;exact UT r fun v r=>uL r h
 |1,h=>exact False.elim h
 |2,h=>exact Xf h fun a e h=>by subst e;exact UT r fun v r=>iE (P:=fun v=>BO c ν s (.type "tuple") K [v]) r h fun l x xs n g r z h=>uJ i g r z h
 |3,h=>exact False.elim h
 |4,h=>exact Xf h fun a e h=>by subst e;exact UT r fun v r=>uK ok r h
 |5,h=>
  exact BX h fun a b e h=>by
   subst e
   exact Abg r fun v u r r'=>Z7 (P:=fun v=>BO c ν s (.builtin "min") K [v,u]) h r fun x t _ h=>Z7 (P:=fun u=>BO c ν s (.builtin "min") K [_,u]) h r' fun y t' _ h E R hR=>min_two_ints ok.handled fun h' tk k=>by
    by_cases q:y<x
    ·rw[if_pos q] at h ⊢;exact hR.d h (DR.int _ _) ⟨_,_,rfl,k⟩
    ·rw[if_neg q] at h ⊢;exact hR.d h (DR.int _ _) ⟨_,_,rfl,k⟩
 |6,h=>exact Xf h fun a e h=>by subst e;exact UT r fun v r=>iD r h
 |7,h=>
  exact Xf h fun a e h=>by
   subst e
   exact UT r fun v r=>Z7 (P:=fun v=>BO c ν s (.builtin "chr") K [v]) h r fun x t _ h E R hR=>P.chr_of_int (by have b:=both (Zk h).1;have h1:=of_decide_eq_true b.1;have h2:=of_decide_eq_true b.2;simp;omega) (hR.d (Zk h).2 (DR.str _ _) (KS.tok _ _))
 |8,h=>
  exact Xf h fun a e h=>by
   subst e
   exact UT r fun v r=>XI h r fun l h r=>Zw h fun bs q h=>match r.inv with|⟨x,xs,n,e,g,_,r,z⟩=>e▸fun E R hR=>uI ok.handled g (Ac q r) fun h' t k=>hR.d h (DR.bool _) ⟨_,_,rfl,k⟩
 |9,h=>exact Xf h fun a e h=>by subst e;exact UT r fun v r=>XI h r fun l h r=>Zw h fun ps q h E R hR=>E9 r i q h.1 h.2 hR
 |10,_=>exact absurd rfl hb10
 |b+11,h=>exact False.elim h
end
section
variable{C:Cx}{c:Cf}{ν:List Addr}{env:Ev}{st:St}{s s':ai}{X:Xp}{a:PE}{es:List Expr}{p pos:Pos}
theorem YL{A:bz}{E:aa→ai→Prop}{b:Nat}{pos':Pos}{Q:aa→ai→Prop}(hn:noStar es=true)
  (h:Zh c.M A (spliced (backTo pos' (starEach es c.ce))) (fun vs s'=>Zh c.M A (PySem.call (Jd b) vs) Q E s') E s):
  Zh c.M A (callWith pos (Jd b) [] (backTo pos' (starEach es c.ce)) []) Q E s:=by
 have hp:=plain_any (env:=c.ce) (pos:=pos') hn
 have k1:∀{x:String},Zh c.M A (spliced (backTo pos' (starEach es c.ce))) (fun vs s'=>Zh c.M A (PySem.call (.builtin x) vs) Q E s') E s→Zh c.M A (callWith pos (.builtin x) [] (backTo pos' (starEach es c.ce)) []) Q E s:=fun h=>Y5 hp (Yu hp h)
 have k2:∀{x:String},Zh c.M A (spliced (backTo pos' (starEach es c.ce))) (fun vs s'=>Zh c.M A (PySem.call (.type x) vs) Q E s') E s→Zh c.M A (callWith pos (.type x) [] (backTo pos' (starEach es c.ce)) []) Q E s:=fun h=>VG hp (Yu hp h)
 match b,h with
 |0,h|5,h|6,h|7,h|8,h|9,h=>exact k1 h
 |1,h|2,h|3,h|4,h=>exact k2 h
 |b+10,h=>exact k2 h
theorem Jk{x:Str}{b:Nat}(ok:c.Ok)(hn:noStar es=true)(hk:c.ce.kindOf x=some .globalImplicit)(hd:(x==("__debug__":Str))=false)(hx:(x,b)∈VP)(L9:b≠10)
  (h:YD C c ν es a):ZL C c ν (.Call (.Name x p) es [] pos) (.blt b a):=fun env st Q X s i hq=>
 Z8 (up<|WT ok i hk hd hx (YL hn ((h _ _ _ _ _ _ i hq).then fun svs cvs st1 s1 q1 r1 i1 g1=>
  up (uH (K:=fun v=>Q v st1) L9 ok i1 r1 q1 (c.RX X) (Sa c ν env Q s) fun sv cv s' q r k=>⟨sv,st1,q,r,i1.ks k,g1.trans k.go⟩))))
theorem Jj{vs:List aa}{ss:List Str}(h:StrsAre vs ss):∃l:List (Str × Tok),vs=strValues l∧l.map (·.1)=ss:=by
 induction h with
 |nil=>exact⟨[],rfl,rfl⟩
 |cons y t r ih=>exact ih.elim fun l e=>⟨(y,t)::l,by rw[e.1];rfl,by rw[jq,e.2]⟩
theorem Ae{n:Nat}{cp apos:Pos}{e:Expr}(ok:c.Ok)(hn:noStar [e]=true)(hp:apos.endLine=pos.line)(h:YD C c ν [e] a):ZL C c ν (.Call (.Attribute (.Constant (.str "") n cp) "join" apos) [e] [] pos) (.blt 10 a):=fun env st Q X s i hq=>by
 have i0:c.I ν env st {s with toks:=s.toks+1}:=i.ks (KS.tok s _)
 refine GP rfl hn (by decide:1<30) hp (up (PySem.Calls.Constant_str fun pl=>up<|GM.join (Y5 (plain_any hn) (Yu (plain_any hn) ((h _ _ _ _ _ _ i0 hq).then fun svs cvs st1 s1 q1 r1 i1 g1=> ?_)))))
 refine Xf (l:=svs) q1 fun a e h=> ?_
 subst e
 refine UT (P:=fun cvs=>Zh c.M c.A (call (.builtin "str.join") ([.str "" s.toks]++cvs) []) (Sa c ν env Q s) (c.RX X) s1) r1 fun v r=> ?_
 cases a with
 |own l=>exact Zw h fun ss e h=>match r with
  |⟨x,xs,m,e',g2,g3,g4,_⟩=>(Jj (g3.strs e)).elim fun l' l1=>e'▸up (SC.join (x:="") (l:=l') (texts:=ss) ⟨_,g2,rfl,m,congrArg (fun l=>Data.seq (gh l) m) l1.1⟩ l1.2 (Zk h).1 fun t' k=>
    ⟨.d (.str _),_,(Zk h).2,DR.str _ _,i1.ks (KS.tok s1 k),(Cf.Go.toks _).trans (g1.trans (.toks k))⟩)
 |_=>exact False.elim h
end
section
variable{C:Cx}{c:Cf}{ν:List Addr}{env:Ev}{st:St}{s s' s₀:ai}{X:Xp}{a r:PE}{e:Expr}{p pos:Pos}
def OR(c:Cf)(ν:List Addr)(h:Heap):Option S→aa→Prop
 |none,cv=>cv= .none
 |some sv,cv=>c.SR ν h sv cv
theorem OR.go{o:Option S}{cv:aa}(x:OR c ν s.heap o cv)(i:c.I ν env st s)(y:c.Go s s'):OR c ν s'.heap o cv:=by
 cases o with
 |none=>exact x
 |some sv=>exact SR.go x i y
inductive Af(c:Cf)(ν:List Addr)(env:Ev)(Q:Option S→St→Prop)(s₀:ai)(cv:aa)(s:ai):Prop
 |mk (sv:Option S) (st:St) (q:Q sv st) (r:OR c ν s.heap sv cv) (i:c.I ν env st s) (g:c.Go s₀ s)
def Ag(C:Cx)(c:Cf)(ν:List Addr)(o:Option Expr)(p:PE):Prop:=∀env st (Q:Option S→St→Prop) X s,c.I ν env st s→wpO C p env st Q X→Zh c.M c.A (evalPart o c.ce) (Af c ν env Q s) (c.RX X) s
theorem Af.then{t:Sem aa}{Q:Option S→St→Prop}{R:aa→ai→Prop}(h:Zh c.M c.A t (Af c ν env Q s) (c.RX X) s)(k:∀sv cv st' s',Q sv st'→OR c ν s'.heap sv cv→c.I ν env st' s'→c.Go s s'→R cv s'):Zh c.M c.A t R (c.RX X) s:=
 Zi h (fun cv s' x=>match x with|⟨sv,st',q,r,i,g⟩=>k sv cv st' s' q r i g) fun _ _ e=>e
theorem EC:Ag C c ν none .nil:=fun env st Q X s i hq=>by
 rw[evalPart_none]
 exact Zc ⟨none,_,hq,rfl,i,.refl _ _⟩
theorem EE(h:ZL C c ν e a):Ag C c ν (some e) (.cons a r):=fun env st Q X s i hq=>by
 rw[evalPart_some]
 exact(h _ _ _ _ _ i hq).then fun sv cv st' s' q r i' g=>⟨some sv,_,q,r,i',g⟩
theorem UU{A:bz}{E:aa→ai→Prop}{value:Expr}{lo hi:Option Expr}{o i:aa}{T id:String}{Q:aa→ai→Prop}(hT:s.TypeIs o T)
  (hl:ju (.type T) "__getitem__"=pure (some (.builtin id))) (h:wpAny c.M A (getItem o i) Q E s):wpAny c.M A (jj value (.Slice lo hi none p) o i) Q E s:=
 A05 (ops:=[i,o]) hT hl h rfl
section
variable{A:bz}{value:Expr}{lo hi:Option Expr}{E:aa→ai→Prop}{va:aa}{K:D→Prop}{R:aa→ai→Prop}
theorem GR{n:Nat}{x:Int}(h0:0≤x)(h1:x≤n):clipAt n x=x.toNat:=by
 unfold clipAt
 rw[if_neg (mh.mpr h0),Int.min_eq_left h1,Int.max_eq_right h0]
noncomputable abbrev xX(l u:aa):Obj:={cls:= .type "slice",data:= .fields #[l,u,.none]}
def LR(c:Cf)(ν:List Addr)(s:ai)(K:D→Prop)(R:aa→ai→Prop):Prop:=∀d cv s',K d→DR c.w ν s'.heap d cv→KS s s'→R cv s'
theorem ED{l:List Int}{tx ty:Tok}{x y:Int}(ha:DR c.w ν s.heap (.bytes l) va)(h1:0≤x)(h2:x≤y)(h3:y≤l.length)(hk:K (.bytes ((l.take y.toNat).drop x.toNat)))(hR:LR c ν s K R):
  wpAny c.M A (jj value (.Slice lo hi none p) va (.ref s.heap.objs.size)) R E {s with heap:=s.heap.push (xX (.int x tx) (.int y ty))}:=
 match ha.inv with
 |⟨arr,u,e,q,z⟩=>by
  have z2:=ao (KBc.size_picked_le arr (some x) (some y)) z
  have e2:=KBc.ints_picked (b:=arr) (ks:=Rt arr) rfl (some x) (some y)
  rw[q] at e2
  have e3:Rt (KBy.picked arr (some x) (some y))=(l.take y.toNat).drop x.toNat:=by
   rw[List.drop_take,← GR h1 (ja h2 h3),← GR (ja h1 h2) h3];exact e2
  exact e▸UU (j0 _ _ _) uh.lookup (getItem_meets (j0 _ _ _) (by decide) uh FB.entry_bytes_getitem (FB.args_bytes_getitem_2 _ _) (KBc.meets_slice2 arr u _ (.int x tx) (.int y ty))
   ⟨A0A _ _ _ _,z2,fun t' k=>hR _ _ _ (e3▸hk) (DR.bytes _ _ z2) ((KS.VN s _).trans (KS.tok _ k))⟩)
theorem iH{l:List D}{tx:Tok}(i:c.I ν env st s)(ha:DR c.w ν s.heap (.tup l) va)(h1:1≤l.length)(hk:K (.tup (l.drop 1)))(hR:LR c ν s K R):
  wpAny c.M A (jj value (.Slice lo hi none p) va (.ref s.heap.objs.size)) R E {s with heap:=s.heap.push (xX (.int 1 tx) .none)}:=
 match ha.inv with
 |⟨x,xs,n,e,g1,g2,g3,g4⟩=>
  have k0:=KS.VN s (xX (.int 1 tx) .none)
  have g1':=k0.keeps _ _ g1
  e▸UU (T:="tuple") ⟨_,g1',rfl⟩ slot_tuple_getitem.lookup (getItem_tuple_from (a:=1) (u:=tx) (items:=xs) ⟨_,g1',rfl,n,rfl⟩ (A0A _ _ _ _) (ew _) (g3.size▸h1)
   (hR _ _ _ hk (DR.tup (b9 _ rfl) (WN (i.ks k0)) ((g3.tail.keeps k0.keeps).keeps (KS.VN _ _).keeps) (by rw[je,List.length_drop,ez];exact ao (z4 _ _) g4)) (k0.trans (KS.VN _ _))) g4)
set_option tactic.hygienic true in
theorem iG{x:Str}{u tx:Tok}{j:Int}(hz:(Ro x j).length≤YU)(hk:K (.str (Ro x j)))(hR:LR c ν s K R):
  wpAny c.M A (jj value (.Slice lo hi none p) (.str x u) (.ref s.heap.objs.size)) R E {s with heap:=s.heap.push (xX (.int j tx) .none)}:=by
 have k0:=KS.VN s (xX (.int j tx) .none)
 refine UU (T:="str") (typeIs_str _ _ _) F.slot_str_getitem.lookup (wpAny_getItem_str_slice (l:=some (j,tx)) (u:=none) (st:=none) ⟨_,b9 _ rfl,rfl,rfl⟩ rfl ?_)
 unfold Ro at hk hz
 unfold sliceMade slicePicked
 simp only[zq,Option.map_none,Option.getD_none,beq_self_eq_true,Bool.true_and]
 split
 ·rename_i hc
  rw[if_pos hc] at hk
  exact hR _ _ _ hk (DR.str _ _) k0
 ·rename_i hc
  rw[if_neg hc] at hk hz
  exact⟨hz,hR _ _ _ hk (DR.str _ _) (k0.trans (KS.tok _ _))⟩
def SlG(c:Cf)(A:bz)(value:Expr)(lo hi:Option Expr)(p:Pos)(va:aa)(R:aa→ai→Prop)(E:aa→ai→Prop)(s:ai)(vl vh:aa):Prop:=
 wpAny c.M A (jj value (.Slice lo hi none p) va (.ref s.heap.objs.size)) R E {s with heap:=s.heap.push (xX vl vh)}
theorem uM{a:S}{l h:Option S}{vl vh:aa}(i:c.I ν env st s)(ha:c.SR ν s.heap a va)(hl:OR c ν s.heap l vl)(hh':OR c ν s.heap h vh)(hs:Aah a l h K)(hR:LR c ν s K R):SlG c A value lo hi p va R E s vl vh:=
 WO hs ha fun v hs ha=>Zw hs fun l0 e hs=>by
  subst e
  refine Z7 (P:=fun vl=>SlG c A value lo hi p va R E s vl vh) hs hl fun x tx _ hs=> ?_
  clear hl
  cases v with
  |bytes l=>
   exact Zw hs fun u e hs=>by
    subst e
    exact Z7 (P:=fun vh=>SlG c A value lo hi p va R E s _ vh) hs hh' fun y ty _ hs=>
     have b:=both (Zk hs).1
     have b2:=both b.2
     ED ha (of_decide_eq_true b.1) (of_decide_eq_true b2.1) (of_decide_eq_true b2.2) (Zk hs).2 hR
  |tup l=>
   have b:=both (Zk hs).1
   have b2:=both b.2
   cases gm.mp b.1
   cases of_decide_eq_true b2.1
   exact(hh':vh=_)▸iH i ha (cw b2.2) (Zk hs).2 hR
  |str z=>
   cases gm.mp (Zk hs).1
   have q:=Yv (Zk hs).2
   exact(hh':vh=_)▸(DR.inv ha).elim fun t e=>e▸iG q.1 q.2 hR
  |_=>exact False.elim hs
end
theorem iF{value:Expr}{lo hi:Option Expr}{pl ph:PE}(h1:ZL C c ν value a)(h2:Ag C c ν lo pl)(h3:Ag C c ν hi ph):ZL C c ν (.Subscript value (.Slice lo hi none p) pos) (.lV a pl ph):=fun env st Q X s i hq=>
 XE ((h1 _ _ _ _ _ i hq).then fun x cx st1 s1 q1 r1 i1 g1=>FW (Af.then (h2 _ _ _ _ _ i1 q1) fun ol vl st2 s2 q2 r2 i2 g2=>Af.then (h3 _ _ _ _ _ i2 q2) fun oh vh st3 s3 q3 r3 i3 g3=>by
  rw[evalPart_none]
  exact Zc (up (uM (K:=fun d=>Q (.d d) st3) (R:=Sa c ν env Q s) i3 (SR.go (SR.go r1 i1 g2) i2 g3) (r2.go i2 g3) r3 q3 fun d cv s' hk r k=>⟨.d d,st3,hk,r,i3.ks k,g1.trans (g2.trans (g3.trans k.go))⟩))))
end
inductive PN(c:Cf)(N:Ev→St→Prop)(s:ai):Prop
 |mk (ν:List Addr) (env:Ev) (st:St) (q:N env st) (i:c.I ν env st s)
inductive PR(c:Cf)(R:D→St→Prop)(cv:aa)(s:ai):Prop
 |mk (d:D) (st:St) (env:Ev) (q:R d st) (r:DR c.w c.νf s.heap d cv) (i:c.I c.νf env st s)
def VQ(c:Cf)(N:Ev→St→Prop)(R:D→St→Prop):Flow→ai→Prop
 | .next,s=>PN c N s
 | .ret cv,s=>PR c R cv s
 |_,_=>False
structure Turn(L':Addr)(s s':ai):Prop where
 keep:∀b o,s.heap.get? b=some o→b≠L'→s'.heap.get? b=some o
 live:∀o,s.heap.get? L'=some o→NF o→∃o',s'.heap.get? L'=some o'∧NF o'
 os:s'.os=s.os
 gens:s'.gens=s.gens
section
variable{C:Cx}{c:Cf}{ν ν':List Addr}{env env':Ev}{st st':St}{s s':ai}{X:Xp}{L':Addr}{x:Str}{j:Nat}{sv:S}{cv:aa}{lm cm lm' cm':Str→Option aa}
theorem Turn.Ai(y:Turn L' s s'){a:Addr}{o:Obj}(e:s.heap.get? a=some o)(n:NF o):∃o',s'.heap.get? a=some o'∧NF o':=if q:a=L' then by subst q;exact y.live o e n else⟨o,y.keep a o e q,n⟩
theorem Turn.kp(y:Turn L' s s')(h:L'∈ν):Kp ν ν s.heap s'.heap:=fun b o e _ hb=>⟨y.keep b o e fun q=>hb (q▸h),hb⟩
theorem Turn.ht(y:Turn L' s s')(x:c.Ht c.h0 s.heap)(h0:RG c.h0 L')(hB:c.B.get? L'=none):c.Ht c.h0 s'.heap:=
 have ne:∀{b o},c.h0.get? b=some o→NF o→b≠L':=fun e n q=>Zj h0 e q.symm
 ⟨fun b o e n h1 h2=>y.keep b o (x.keep b o e n h1 h2) (ne e n),fun b o e n h1=>(x.VE b o e n h1).elim fun sl e1=>⟨sl,y.keep b _ e1 (ne e n)⟩,fun b o e n=>(x.live b o e n).elim fun o1 h=>⟨o1,y.keep b _ h.1 (ne e n),h.2⟩,
  fun k b o e=>y.keep b o (x.stays k b o e) fun q=>Zj hB e q.symm⟩
theorem Cf.I.turn(i:c.I ν env st s)(y:Turn L' s s')(hf:L'∈ν)(h0:RG c.h0 L')(hv:L'∉YW c.ρ)(hfr:mH c ν env' s'.heap):c.I ν env' st s':=
 ⟨i.base,i.lim,i.seer,fun b o e=>y.keep b o (i.stays b o e) fun q=>Zj (i.νB L' hf) e q.symm,i.νB,Wq i.frames fun L hL o ho hn=>y.Ai ho hn,
  i.str.kv fun b o e n q=>y.keep b o e fun e=>hv (e▸q (e▸hf)),hfr,i.fν,i.SP,i.JR,i.JS,fun a h=>(i.live a h).elim fun o q=>y.Ai q.1 q.2,y.gens.trans i.gens,fun p hp=>(i.Ws p hp).mono (y.kp hf),
  fun p hp=>⟨y.keep _ _ (i.X6 p hp).e fun q=>(i.X6 p hp).n (q▸hf),(i.X6 p hp).n⟩,y.ht i.sin h0 (i.νB L' hf),y.os.trans i.os,fun b o e v f=>y.keep b o (i.al b o e v f) fun q=>Zj h0 e q.symm⟩
theorem SR.turn(x:c.SR ν s.heap sv cv)(y:Turn L' s s')(hf:L'∈c.νf)(hν:L'∈ν):c.SR ν s'.heap sv cv:=SR.kp x (y.kp hν) (fun a o g _ q=>y.keep a o g fun e=>q.f (e▸hf)) fun _ h=>h
theorem Aj{ce:Env}{y:Str}(h1:ce.kindOf y=some .local→lm' y=lm y)(h2:cm' y=cm y):Sx ce lm' cm' y=Sx ce lm cm y:=by
 unfold Sx
 cases e:ce.kindOf y with
 |none=>rfl
 |some k=>cases k with
  |«local»=>exact h1 e
  |cell=>exact congrArg (fun v=>(ce.cells.lookup y).bind fun _=>v) h2
  |free=>exact congrArg (fun v=>(ce.cells.lookup y).bind fun _=>v) h2
  |_=>rfl
theorem Pz{o:Option S}{k:Nat}{sv':S}(e:(env.set j o)[k]?=some (some sv')):(k=j∧o=some sv')∨(k≠j∧env[k]?=some (some sv')):=by
 rw[List.getElem?_set] at e
 by_cases q:j=k
 ·rw[if_pos q] at e
  split at e
  ·exact .inl ⟨q.symm,bh e⟩
  ·exact no e
 ·rw[if_neg q] at e
  exact .inr ⟨fun h=>q h.symm,e⟩
def Hi(c:Cf)(ν:List Addr)(env:Ev)(h:Heap)(j:Nat)(sv:S)(cv:aa):Prop:=ZO sv=true→∀k sv',k≠j→env[k]?=some (some sv')→ZO sv'=true→¬c.SR ν h sv' cv
theorem Ah{h:Heap}{d:D}:Hi c ν env h j (.d d) cv:=fun h=>nomatch h
theorem Sg{h:Heap}{t:Tag}:Hi c ν env h j (.tag t) cv:=fun h=>nomatch h
theorem Nn.store{h:Heap}(ok:c.Ok)(f:Nn c ν env s.heap lm cm)(ns:h.Ns c.ce.locals lm')(cell:∀n a,c.ce.cells.lookup n=some a→KV c h a (cm' n))(go:∀z k sv1 cv1,c.nm.lookup z=some k→k≠j→env[k]?=some (some sv1)→Sx c.ce lm cm z=some cv1→c.SR ν s.heap sv1 cv1→c.SR ν h sv1 cv1)
  (r:c.SR ν h sv cv) (hx:c.nm.lookup x=some j) (hv:Sx c.ce lm' cm' x=some cv) (ho:∀z,z≠x→Sx c.ce lm' cm' z=Sx c.ce lm cm z) (hown:∀z k sv1 cv1,c.nm.lookup z=some k→k≠j→env[k]?=some (some sv1)→ZO sv=true→ZO sv1=true→Sx c.ce lm cm z=some cv1→c.SR ν s.heap sv1 cv1→cv1≠cv):
  Nn c ν (env.set j (some sv)) h lm' cm':=by
 have ne:∀{z k},c.nm.lookup z=some k→k≠j→z≠x:=fun hz hk q=>hk (bh (hz.symm.trans (q▸hx)))
 have one:∀z k sv1 cv',c.nm.lookup z=some k→k≠j→env[k]?=some (some sv1)→ZO sv1=true→ZO sv=true→Sx c.ce lm' cm' z=some cv'→cv'≠cv:=fun z k sv1 cv' hz hk e o1 o2 w=>by
  rw[ho z (ne hz hk)] at w
  exact match f.val z k sv1 hz e with|⟨cv0,v1,v2⟩=>hown z k sv1 cv' hz hk e o2 o1 w (bh (v1.symm.trans w)▸v2)
 refine⟨ns,cell,f.SQ,f.lν,f.l0,fun z k sv' hz e=> ?_,fun z z' k k' sv1 sv2 cv' hz hz' e1 e2 o1 o2 w1 w2=> ?_⟩
 ·rcases Pz e with⟨hk,q⟩|⟨hk,e⟩
  ·cases q;cases ok.slots z x j (hk▸hz) hx;exact⟨cv,hv,r⟩
  ·exact match f.val z k sv' hz e with|⟨cv',v1,v2⟩=>⟨cv',(ho z (ne hz hk)).trans v1,go z k sv' cv' hz hk e v1 v2⟩
 ·have at_x:∀{z k cv'},c.nm.lookup z=some k→k=j→Sx c.ce lm' cm' z=some cv'→cv'=cv:=fun hz hk w=>by cases ok.slots _ x j (hk▸hz) hx;exact bh (w.symm.trans hv)
  rcases Pz e1 with⟨hk,q⟩|⟨hk,d1⟩<;>rcases Pz e2 with⟨hk',q'⟩|⟨hk',d2⟩
  ·exact hk.trans hk'.symm
  ·cases q;exact absurd (at_x hz hk w1) (one z' k' sv2 cv' hz' hk' d2 o2 o1 w2)
  ·cases q';exact absurd (at_x hz' hk' w2) (one z k sv1 cv' hz hk d1 o1 o2 w1)
  ·exact f.KW z z' k k' sv1 sv2 cv' hz hz' d1 d2 o1 o2 (ho z (ne hz hk)▸w1) (ho z' (ne hz' hk')▸w2)
inductive YE(c:Cf)(x:Str)(i:Nat):Prop
 |loc (n:c.nm.lookup x=some i) (k:c.ce.kindOf x=some .local)
 |cell (n:c.nm.lookup x=some i) (k:c.ce.kindOf x=some .cell) (l:(c.ce.cells.lookup x).isSome=true) (w:c.wr=true)
structure Off(c:Cf)(b:Addr):Prop where
 l:b≠c.ce.locals
 c:∀n,c.ce.cells.lookup n≠some b
def Mv(c:Cf)(s s':ai):Prop:=∀b o,s.heap.get? b=some o→(b∈c.νf→Off c b)→s'.heap.get? b=some o
theorem Mv.trans{s'':ai}(x:Mv c s s')(y:Mv c s' s''):Mv c s s'':=fun b o e h=>y b o (x b o e h) h
structure MG(c:Cf)(ν:List Addr)(env:Ev)(st:St)(s s':ai):Prop where
 i:c.I ν env st s'
 t:∃L',L'∈c.νf∧Turn L' s s'
 mv:Mv c s s'
theorem Abh{h:Heap}{a:Addr}{o o':Obj}(e:h.get? a=some o)(e':h.get? a=some o'){v:Option aa}{es:Array dw}{n:Nat}(d:o.data= .cell v)(d':o'.data= .dict es n):False:=by rw[e] at e';cases e';exact nomatch d.symm.trans d'
theorem GS{h:Heap}{a b:Addr}{m:Str→Option aa}{v:Option aa}(x:h.Ns a m)(y:h.IsCell b v):a≠b:=fun q=>by
 subst q
 obtain⟨o',es,ep,ho',hd',_⟩:=x
 obtain⟨o,ho,hd⟩:=y
 exact Abh ho ho' hd hd'
theorem Xo{E:aa→ai→Prop}{R:Unit→ai→Prop}(ok:c.Ok)(i:c.I ν env st s)(r:c.SR ν s.heap sv cv)(hx:YE c x j)(hown:Hi c ν env s.heap j sv cv)(hR:∀s',MG c ν (env.set j (some sv)) st s s'→R () s'):wpAny c.M c.A (uq c.ce x cv) R E s:=by
 cases i.VE with
 |mk lm cm f=>
 cases hx with
 |loc hx hk=>
  refine zx hk f.ns (fun h' hn hs=> ?_) (by rw[ok.kind];rfl)
  have y:Turn c.ce.locals s {s with heap:=h',toks:=s.toks+1}:=⟨fun b o e hb=>hs.extBut b o hb e,fun o e n=>TZ hn,rfl,rfl⟩
  have hL:=i.fν _ f.lν
  exact hR _ ⟨i.turn y hL f.l0 f.SQ ⟨_,cm,f.store (lm':=fun z=>if z=x then some cv else lm z) ok hn (fun n a e=>(f.cell n a e).to fun b g _=>hs.extBut a b (fun q=>GS f.ns (f.cell n a e).is q.symm) g) (fun _ _ _ _ _ _ _ _ r=>SR.turn r y f.lν hL) (SR.turn r y f.lν hL) hx
   (by unfold Sx;rw[hk];exact if_pos rfl) (fun z hz=>Aj (fun _=>if_neg hz) rfl) (fun z k sv1 cv1 _ hk e o o1 _ v2 q=>hown o k sv1 hk e o1 (q▸v2))⟩,⟨_,f.lν,y⟩,fun b o e h=>y.keep b o e fun q=>(h (q▸f.lν)).l q⟩
 |cell hx hk hcl hw=>
  obtain⟨a,hc⟩:=fk.mp hcl
  have p:=f.cell x a hc
  refine wpAny_storeName_cell ok.kind hk hc p.is fun h' hn hs=> ?_
  have y:Turn a s {s with heap:=h'}:=⟨fun b o e hb=>hs.extBut b o hb e,fun o e n=>hn.elim fun o q=>⟨o,q.1,fun vs e=>nomatch q.2.symm.trans e⟩,rfl,rfl⟩
  have hL:=i.fν _ (p.f hw)
  refine hR _ ⟨i.turn y hL (p.h0 hw) p.v ⟨lm,_,f.store (cm':=fun z=>if z=x then some cv else cm z) ok (f.ns.sameBut hs (GS f.ns p.is)) (fun n b e=> ?_) (fun _ _ _ _ _ _ _ _ r=>SR.turn r y (p.f hw) hL) (SR.turn r y (p.f hw) hL) hx
   (by unfold Sx;rw[hk,hc];exact if_pos rfl) (fun z hz=>Aj (fun _=>rfl) (if_neg hz)) (fun z k sv1 cv1 _ hk e o o1 _ v2 q=>hown o k sv1 hk e o1 (q▸v2))⟩,⟨_,p.f hw,y⟩,fun b o e h=>y.keep b o e fun q=>(h (q▸p.f hw)).c x (q▸hc)⟩
  by_cases q:n=x
  ·subst q;cases hc.symm.trans e;exact⟨by rw[if_pos rfl];exact hn,p.v,p.F,p.f,p.h0⟩
  ·rw[if_neg q];exact(f.cell n b e).to fun o g _=>hs.extBut b o (fun w=>q (ok.Qn n x b e (w▸hc))) g
end
def ZJ(C:Cx)(c:Cf)(t:Stmt)(p:PS):Prop:=∀ν env st N R X s,c.I ν env st s→wpS C p env st N R X→Zh c.M c.A (exec t c.ce) (VQ c N R) (c.RX X) s
def Wv(C:Cx)(c:Cf)(t:List Stmt)(p:PS):Prop:=∀ν env st N R X s,c.I ν env st s→wpS C p env st N R X→Zh c.M c.A (execs t c.ce) (VQ c N R) (c.RX X) s
section
variable{C:Cx}{c:Cf}{ν ν':List Addr}{env:Ev}{st st':St}{s s':ai}{X:Xp}{pos:Pos}{t:Stmt}{ts b o:List Stmt}{e:Expr}{pe:PE}{a r pb:PS}
theorem V1.XO{h h':Heap}(x:V1 c.w c.νf c.ρ st h)(y:Vf c.F h h')(fF:∀a∈c.F,a∈c.νf)(fV:∀a∈c.F,a∉YW c.ρ):V1 c.w c.νf c.ρ st h':=x.kv fun b o e n q=>(y b o e n).keep fun hb=>fV b hb (q (fF b hb))
theorem Cf.Ht.XO{h h':Heap}(x:c.Ht c.h0 h)(y:Vf c.F h h')(k:c.B.StaysIn h'):c.Ht c.h0 h':=
 ⟨fun b o e n h1 h2=>(y b o (x.keep b o e n h1 h2) n).keep h2,fun b o e n h1=>(x.VE b o e n h1).elim fun sl e1=>(y b {o with slots:=sl} e1 n).slot.elim fun sl' e2=>⟨sl',e2⟩,fun b o e n=>(x.live b o e n).elim fun o1 h=>(y b o1 h.1 h.2).slot.elim fun sl' e2=>⟨_,e2,h.2⟩,fun _=>k⟩
structure Cf.Fr(c:Cf):Prop where
 fF:∀a∈c.F,a∈c.νf
 fV:∀a∈c.F,a∉YW c.ρ
theorem Cf.I.fr(i:c.I ν env st s):c.Fr:=⟨i.JR,i.JS⟩
theorem V3{x:aa}{e1 e2:Env}(h:e1.frame=e2.frame):n7 x e1=n7 x e2:=by
 unfold n7 frameOf;rw[h]
theorem Cf.RX.note{E:aa→ai→Prop}{ev:aa}(ok:c.Ok)(fr:c.Fr)(x:c.RX X ev s')(hE:∀e k od d YY at_ st' h,ev= .ref e→X k YY at_ st'→ExcAt c.w od YY at_→Exc c.B c.F e k od d (some (rawInt c.L)) h→Vf c.F s'.heap h→c.B.StaysIn h→
  (∀h₂,Vf c.F s'.heap h₂→c.B.StaysIn h₂→Exc c.B c.F e k od d (some (rawInt c.L)) h₂→c.RX X ev {s' with heap:=h₂})→E ev {s' with heap:=h}):Xd c.M c.A c.ce E ev s':=by
 cases x with
 |mk e k YY at_ st' od d fl a1 a2 a3 a4 a5 a6 a7 a8 a9 a10 a11 a12=>
 obtain⟨fenv,outer,hfr,hL,g1,g2,g3,g4⟩:=ok.head
 subst a1
 unfold Xd
 rw[V3 (ok.frame.trans hL.symm)]
 have hF:c.F=Uh (fenv::outer):=congrArg Uh hfr
 rw[hF] at a3
 refine up<|QA (ok.frames.trans (congrArg some hfr)) hL (hfr▸a8) a7 a3 a4 fun h₁ y=> ?_
 rw[← hF] at y
 exact hE e k od d YY at_ st' h₁ rfl a2 a5 y.exc y.XO y.stays fun h₂ p₂ k₂ x₂=>⟨e,k,YY,at_,st',od,d,_,rfl,a2,x₂,.inr (.inr rfl),a5,a6.XO p₂ fr.fF fr.fV,k₂,p₂.S7 a8,a9.XO p₂ k₂,a10,a11,a12.elim fun lm n=>⟨lm,WL n fun o ho hn=>(p₂ _ _ ho hn).slot⟩⟩
theorem Cf.RX.own{ev:aa}(ok:c.Ok)(fr:c.Fr)(x:c.RX X ev s'):Xd c.M c.A c.ce (Qz c.M c.A c.ce (c.RX X)) ev s':=x.note ok fr fun e k od d YY at_ st' h q _ _ y p k z=>by
 subst q
 unfold Qz
 exact up<|NV (s:={s' with heap:=h}) ok.frame k y fun h₂ y₂=>z h₂ (p.trans y₂.XO) y₂.stays y₂.exc
theorem EG:Wv C c [] .skip:=fun ν env st N R X s i hq=>ZY ⟨ν,env,st,hq,i⟩
theorem Hj(h1:ZJ C c t a)(h2:Wv C c ts r):Wv C c (t::ts) (.seq a r):=fun ν env st N R X s i hq=>
 ZP (Zi (h1 _ _ _ _ _ _ _ i hq) (fun f s' hp=>by
  cases f with
  |next=>cases hp with|mk ν' env' st' hn i'=>exact h2 _ _ _ _ _ _ _ i' hn
  |_=>exact hp) fun _ _ e=>e)
theorem EH:ZJ C c (.Pass pos) .skip:=fun ν env st N R X s i hq=>up<|wpAny_Pass ⟨ν,env,st,hq,i⟩
theorem iJ(h1:∀ν,YK C c ν e pe)(h2:Wv C c b a)(h3:Wv C c o r):ZJ C c (.If e b o pos) (.ite pe a r):=fun ν env st N R X s i hq=>
 DX ((h1 ν _ _ _ _ _ i hq).then fun v st1 s1 q1 i1 g1=>by
  cases v with
  |true=>exact h2 _ _ _ _ _ _ _ i1 q1
  |false=>exact h3 _ _ _ _ _ _ _ i1 q1)
theorem P1{sv:S}{cv:aa}{K:D→Prop}{P:Prop}{h:Heap}(q:cL sv K)(r:c.SR ν h sv cv)(k:∀d,K d→DR c.w ν h d cv→P):P:=by cases sv with|d v=>exact k v q r|_=>exact False.elim q
theorem Ak(h1:∀ν,ZL C c ν e pe):ZJ C c (.Return (some e) pos) (.ret pe):=fun ν env st N R X s i hq=>
 XN ((h1 ν _ _ _ _ _ i hq).then fun sv cv st1 s1 q1 r1 i1 g1=>P1 q1 r1 fun d q r=>⟨d,st1,_,q,r.shrink i1.fν,i1.freeze⟩)
theorem EJ(h1:∀ν,ZL C c ν e pe):ZJ C c (.Return (some e) pos) (.Zl pe):=fun ν env st N R X s i hq=>
 XN ((h1 c.νf _ _ _ _ _ i.freeze hq).then fun sv cv st1 s1 q1 r1 i1 g1=>P1 q1 r1 fun d q r=>⟨d,st1,_,q,r,i1⟩)
theorem EI:ZJ C c (.Return none pos) (.ret (.lit .none)):=fun ν env st N R X s i hq=>up<|wpAny_Return_none ⟨.none,st,_,hq,.none,i.freeze⟩
inductive WhI(C:Cx)(c:Cf)(pe:PE)(pb:PS)(N:Ev→St→Prop)(R:D→St→Prop)(X:Xp)(n:Nat)(s:ai):Prop
 |mk (ν:List Addr) (env:Ev) (st:St) (i:c.I ν env st s) (q:NS (fun env st k=>L6 C pe env st k X) (fun env st k=>wpS C pb env st k R X) n env st N)
theorem iI(ok:c.Ok)(h1:∀ν,YK C c ν e pe)(h2:Wv C c b pb):ZJ C c (.While e b [] pos) (.wh pe pb):=fun ν env st N R X s i hq=>by
 have up':∀{α:Type} {t:Sem α} {Q:α→ai→Prop} {s:ai},Zh c.M c.A t Q (c.RX X) s→Zh c.M c.A t Q (Xd c.M c.A c.ce (Qz c.M c.A c.ce (c.RX X))) s:=fun h=>Zi h (fun _ _ q=>q) fun ev s' x=>x.own ok i.fr
 refine FZ (RB (WhI C c pe pb N R X) (fun n s1 hI=>up' ?_) 64 ⟨ν,env,st,i,hq⟩)
 cases hI with
 |mk ν1 env1 st1 i1 q1=>
 cases n with
 |zero=>exact False.elim q1
 |succ n=>
  refine mK.then (h1 ν1 _ _ _ _ _ i1 q1) fun v st2 s2 q2 i2 g2=> ?_
  cases v with
  |true=>
   refine up' (Zi (h2 _ _ _ _ _ _ _ i2 q2) (fun f s3 hp=> ?_) fun _ _ e=>e)
   cases f with
   |next=>cases hp with|mk ν3 env3 st3 q3 i3=>exact⟨n,gp n,ν3,env3,st3,i3,q3⟩
   |ret v=>exact hp
   |_=>exact False.elim hp
  |false=>exact ZY ⟨ν1,env1,st2,q2,i2⟩
end
noncomputable def P4(env:Ev)(ps:List (Nat × D)):Ev:=ps.foldl (fun e p=>e.set p.1 (some (.d p.2))) env
theorem EK{i:Nat}{v:Option S}{ps:List (Nat × D)}{env:Ev}(h:i∉ps.map (·.1)):P4 (env.set i v) ps=(P4 env ps).set i v:=by
 induction ps generalizing env with
 |nil=>rfl
 |cons p ps ih=>
  have h:=not_or.mp (mt ay.mpr h)
  show P4 ((env.set i v).set p.1 _) ps=_
  rw[List.set_comm _ _ h.1]
  exact ih h.2
theorem An{ps:List (Nat × D)}{env:Ev}(n:(ps.map (·.1)).Nodup):P4 env ps.reverse=P4 env ps:=by
 induction ps generalizing env with
 |nil=>rfl
 |cons p ps ih=>
  have n:=se.mp n
  rw[qv]
  show List.foldl _ _ _=_
  rw[List.foldl_append]
  show(P4 env ps.reverse).set p.1 _=_
  rw[ih n.2]
  exact(EK n.1).symm
theorem Hl{env env':Ev}{i:Nat}{d:D}(h:bindTo env [i] d=some env'):env'=env.set i (some (.d d)):=(bh h).symm
inductive Abi(env:Ev)(is:List Nat)(d:D)(env':Ev):Prop
 |mk (l:List D) (e:d= .tup l) (z:l.length=is.length) (q:env'=P4 env (is.zip l))
theorem Vt{env env':Ev}{is:List Nat}{d:D}(h2:nj 2 is.length=true)(h:bindTo env is d=some env'):Abi env is d env':=by
 match is,h2 with
 |i::j::is,_=>
  cases d with
  |tup l=>
   have h:(match l.length==(i::j::is).length with|true=>some (P4 env ((i::j::is).zip l))|false=>none)=some env':=h
   cases e:l.length==(i::j::is).length with
   |true=>rw[e] at h;exact⟨l,rfl,beq_iff_eq.mp e,(bh h).symm⟩
   |false=>rw[e] at h;exact no h
  |_=>exact no h
noncomputable def YR:Expr→Bool
 | .ListComp ..=>true
 | .SetComp ..=>true
 | .DictComp ..=>true
 |_=>false
theorem ZB{v:Expr}{t:Option Expr}{l:Nat}{env:Env}(h:YR v=false):swapsWith v t l env=pure false:=by
 cases v<;>first|rfl|exact nomatch h
noncomputable def nameOf:Expr→Option Str
 | .Name x _=>some x
 |_=>none
theorem ZC{e:Expr}{x:Str}(h:nameOf e=some x):∃p,e= .Name x p:=by
 cases e<;>first|exact no h|(cases h;exact⟨_,rfl⟩)
section
variable{C:Cx}{c:Cf}{ν:List Addr}{env:Ev}{st:St}{s s':ai}{X:Xp}{x:Str}{p pos:Pos}{j:Nat}{e:Expr}{a:PE}{d:D}{cv:aa}{E:aa→ai→Prop}{R:Unit→ai→Prop}
theorem MG.X6(y:MG c ν env st s s'){d:List D}{v:List aa}(r:ZZ c.w ν s.heap d v):ZZ c.w ν s'.heap d v:=y.t.elim fun L q=>r.mono (q.2.kp (y.i.fν _ q.1))
theorem Uj(ok:c.Ok)(i:c.I ν env st s)(r:DR c.w ν s.heap d cv)(hx:YE c x j)(hR:∀s',MG c ν (env.set j (some (.d d))) st s s'→R () s'):wpAny c.M c.A (uq c.ce x cv) R E s:=
 Xo (sv:= .d d) ok i r hx Ah hR
theorem Am(ok:c.Ok)(hc:YR e=false)(hx:YE c x j)(h1:∀ν,ZL C c ν e a):ZJ C c (.Assign [.Name x p] e pos) (.set j a):=fun ν env st N R X s i hq=>
 ZD ((h1 ν _ _ _ _ _ i hq).then fun sv cv st1 s1 q1 r1 i1 g1=>P1 q1 r1 fun d q r=>up (Uj ok i1 r hx fun s2 y=>⟨ν,_,st1,q,y.i⟩)) (ZB hc)
inductive JT(c:Cf):List (aa→Sem Unit)→List Nat→Prop
 |nil:JT c [] []
 |cons {x:Str} {f:aa→Sem Unit} {i:Nat} {fs:List (aa→Sem Unit)} {is:List Nat}:YE c x i→(∀v (R:Unit→ai→Prop) E s,wpAny c.M c.A (uq c.ce x v) R E s→wpAny c.M c.A (f v) R E s)→JT c fs is→JT c (f::fs) (i::is)
theorem JT.run{fs:List (aa→Sem Unit)}{is:List Nat}{ds:List D}{cvs:List aa}(ok:c.Ok)(t:JT c fs is)(i:c.I ν env st s)(r:ZZ c.w ν s.heap ds cvs)(hl:ds.length=is.length)
  (hR:∀s',c.I ν (P4 env (is.zip ds)) st s'→Mv c s s'→R () s'):wpAny c.M c.A (yg fs cvs) R E s:=by
 induction t generalizing ds cvs env s with
 |nil=>
  cases r with
  |nil=>exact bg (hR s i fun _ _ e _=>e)
  |cons a b=>exact nomatch hl
 |cons hx hf t ih=>
  cases r with
  |nil=>exact nomatch hl
  |cons a b=>exact ak (m:=holding _ _) (o5 (hf _ _ _ _ (Uj ok i a hx fun s1 y=>ih y.i (y.X6 b) (u5 hl) fun s2 i2 m=>hR s2 i2 (y.mv.trans m))))
theorem Jl{i:Nat}{env:Ev}{k:Nat}{sv:S}(h:noOwn i env=true)(hk:k≠i)(e:env[k]?=some (some sv)):ZO sv=false:=by
 induction env generalizing i k with
 |nil=>exact no e
 |cons o r ih=>cases i with
  |zero=>cases k with
   |zero=>exact absurd rfl hk
   |succ k=>exact ia _▸(az.mp h (some sv) (ig e):(!ZO sv)=true)
  |succ i=>cases k with
   |zero=>cases e;exact ia _▸((both h).1:(!ZO sv)=true)
   |succ k=>exact ih (both h).2 (fun q=>hk (congrArg (· +1) q)) e
theorem MH{h:Heap}{sv:S}(ho:noOwn j env=true):Hi c ν env h j sv cv:=fun _ k sv' hk e o=>nomatch (Jl ho hk e).symm.trans o
theorem GU{h h':Heap}{a:Addr}(ha:h.get? a=none)(k:∀b o,h.get? b=some o→h'.get? b=some o):Kp ν (a::ν) h h':=fun b o e _ hb=>⟨k b o e,fun q=>(ay.mp q).elim (fun q=>Zj ha e q.symm) hb⟩
theorem SR.grow{h h':Heap}{a:Addr}{sv:S}{v:aa}(x:c.SR ν h sv v)(ha:h.get? a=none)(k:∀b o,h.get? b=some o→h'.get? b=some o):c.SR (a::ν) h' sv v:=SR.kp x (GU ha k) (fun b o g _ _=>k b o g) fun _=> .tail _
theorem Zs(h:Heap):h.get? h.objs.size=none:=l9 (ew _)
theorem Cf.I.ZE(i:c.I ν env st s){a:Addr}(ha:s.heap.get? a=none){b:Addr}(h:b∈ν):b≠a:=fun q=>(i.live b h).elim fun o e=>Zj ha e.1 q.symm
theorem Cf.I.fresh(i:c.I ν env st s){a:Addr}(ha:s.heap.get? a=none):WK c (a::ν) a:=by
 have hn:a∉c.νf:=fun q=>i.ZE ha (i.fν a q) rfl
 refine⟨.head _,hn,?_,fun q=>hn (i.SP a q),fun q=>hn (i.JR a q)⟩
 cases e:c.h0.get? a with
 |none=>exact e
 |some o=>exact absurd rfl (Zj ha (i.al a o e (fun q=>hn (i.SP a q)) fun q=>hn (i.JR a q)))
end
section
variable{C:Cx}{c:Cf}{ν:List Addr}{env:Ev}{st:St}{s s':ai}{X:Xp}{x:Str}{p pos:Pos}{j:Nat}{e:Expr}{es:List Expr}{a:PE}{d:D}{cv:aa}{E:aa→ai→Prop}{h':Heap}{t:Nat}{b:Addr}
theorem Cf.I.grow{o:Obj}(i:c.I ν env st s)(ha:s.heap.get? b=none)(ho:h'.get? b=some o)(hn:NF o)(k:∀b o,s.heap.get? b=some o→h'.get? b=some o):c.I (b::ν) env st {s with heap:=h',toks:=t}:=
 have K:=i.SO (t:=t) k
 i.to (.of_keeps k) rfl rfl ((i.str.YC fun x o e n m=>(ay.mp m).elim (fun q=>Zj ha e q.symm) n).keeps k) (fun p hp=>⟨(K.X6 p hp).e,fun m=>(ay.mp m).elim (fun q=>Zj ha (i.X6 p hp).e q.symm) (i.X6 p hp).n⟩) K.al (fun _=> .tail _)
  fun x hx=>(ay.mp hx).elim (fun q=> .inr (q▸⟨ha,o,ho,hn⟩)) .inl
theorem GV{l:List D}{xs:Array aa}{n:Nat}(i:c.I ν env st s)(ha:s.heap.get? b=none)(e:h'.get? b=some (Zo xs n))(k:∀b o,s.heap.get? b=some o→h'.get? b=some o)
  (r:ZZ c.w ν s.heap l xs.toList) (hz:xs.size≤YU):c.SR (b::ν) h' (.own l) (.ref b):=⟨b,xs,n,rfl,e,r.mono (GU ha k),hz,i.fresh ha⟩
theorem Nx{l:List D}{xs:Array aa}{N:Ev→St→Prop}{R:D→St→Prop}{n:Nat}(ok:c.Ok)(i:c.I ν env st s)(ha:s.heap.get? b=none)(e:h'.get? b=some (Zo xs n))(k:∀b o,s.heap.get? b=some o→h'.get? b=some o)
  (r:ZZ c.w ν s.heap l xs.toList) (hz:xs.size≤YU) (hx:YE c x j) (q:W2 (noOwn j env) (N (env.set j (some (.own l))) st)):wpAny c.M c.A (uq c.ce x (.ref b)) (fun _ s'=>VQ c N R .next s') E {s with heap:=h',toks:=t}:=
 Xo (sv:= .own l) ok (i.grow (t:=t) ha e Ym k) (GV i ha e k r hz) hx (MH (Zk q).1) fun s2 y=>⟨b::ν,_,st,(Zk q).2,y.i⟩
theorem Jm{lp:Pos}(ok:c.Ok)(hx:YE c x j)(h1:∀ν,YD C c ν es a):ZJ C c (.Assign [.Name x p] (.List es lp) pos) (.UI j a):=fun ν env st N R X s i hq=>
 ZD (ZM ((h1 ν _ _ _ _ _ _ i hq).then fun svs cvs st1 s1 q1 r1 i1 g1=>W5 q1 fun l e q=>by
  have r:=W4 e r1
  have ⟨z,q⟩:=Yv q
  rw[r.length] at z
  exact⟨z,up<|Nx ok i1 (Zs _) (b9 _ rfl) (fun b o=>au _) r z hx q⟩)) (ZB rfl)
theorem MI{fp cp:Pos}(ok:c.Ok)(hn:noStar [e]=true)(hx:YE c x j)(hk:c.ce.kindOf "list"=some .globalImplicit)(h1:∀ν,YD C c ν [e] (.cons a .nil)):
  ZJ C c (.Assign [.Name x p] (.Call (.Name "list" fp) [e] [] cp) pos) (.RT j a):=fun ν env st N R X s i hq=>by
 have hq':Wa C (.cons a .nil) env st (fun vs st=>L7 vs fun v=>V0 v fun l=>W2 (noOwn j env) (N (env.set j (some (.own l))) st)) X:=hq
 exact ZD (Z8 (up<|WT (b:=3) ok i hk (by decide) (by decide) (YL hn ((h1 ν _ _ _ _ _ _ i hq').then fun svs cvs st1 s1 q1 r1 i1 g1=>Xf q1 fun v e q=>by
  subst e
  refine UT (P:=fun cvs=>Zh c.M c.A (PySem.call (Jd 3) cvs) (fun v=>Zh c.M c.A (uq c.ce x v) (fun _=>VQ c N R .next) (c.RX X)) (c.RX X) s1) r1 fun v ra=> ?_
  exact XI q ra fun l q ra=>match ra.inv with
   |⟨y,xs,n,e,g2,_,g3,g4⟩=>e▸up (call_list_seq y (.inl rfl) g2 rfl rfl (fun h' c' k e=>up (Nx (t:=s1.toks) ok i1 (Zs _) e k g3 g4 hx q)) g4))))) (ZB rfl)
noncomputable def uO(sc:eg)(line:Nat)(nm:List (Str × Nat))(t:Expr)(i:Nat)(x:Str):Bool:=sc.names.lookup x==some .local&&(t.pos.line==line&&nm.lookup x==some i)
noncomputable def uN(sc:eg)(line:Nat)(nm:List (Str × Nat)):List Expr→List Nat→Bool
 |[],is=>is.isEmpty
 |t::ts,is=>match is with
  |i::is=>(nameOf t).any (uO sc line nm t i)&&uN sc line nm ts is
  |[]=>false
inductive Nv(c:Cf)(line:Nat):List Expr→List Nat→List Str→Prop
 |nil:Nv c line [] [] []
 |cons {x:Str} {p:Pos} {ts:List Expr} {i:Nat} {is:List Nat} {ns:List Str} (hx:YE c x i) (hk:(c.ce.kindOf x==some .local&&p.line==line)=true):Nv c line ts is ns→Nv c line (.Name x p::ts) (i::is) (x::ns)
theorem iK{line:Nat}{ts:List Expr}{is:List Nat}(h:uN c.ce.scope line c.nm ts is=true):∃ns,Nv c line ts is ns:=by
 induction ts generalizing is with
 |nil=>cases b6.mp h;exact⟨_,.nil⟩
 |cons t ts ih=>cases is with
  |nil=>exact ff h
  |cons i is=>
   have h:=both h
   obtain⟨x,e,q⟩:=Zg h.1
   obtain⟨p,e⟩:=ZC e
   subst e
   have q:=both q
   have q2:=both q.2
   exact(ih h.2).elim fun ns y=>⟨_,.cons (.loc (beq_iff_eq.mp q2.2) (beq_iff_eq.mp q.1)) (gj.mpr ⟨q.1,q2.1⟩) y⟩
noncomputable def namesOf(ts:List Expr):List Str:=ts.filterMap nameOf
noncomputable def Ao(ts:List Expr):Nat:=(ts.head?.map (·.pos.line)).getD 0
noncomputable def Ho(sc:eg)(nm:List (Str × Nat))(ts vs:List Expr)(is:List Nat):Bool:=
 uN sc (Ao ts) nm ts is&&((ts.length==2||ts.length==3)&&(vs.length==ts.length&&(noStar vs&&((namesOf ts).eraseDups.length==(namesOf ts).length&&(!(vs.all (foldedForSure 8))&&(!(vs.all (constantsAlone 8))&&decide is.Nodup))))))
variable{line:Nat}{ts vs:List Expr}{is:List Nat}{ns:List Str}
theorem Nv.names(h:Nv c line ts is ns):namesOf ts=ns:=by
 induction h with
 |nil=>rfl
 |cons _ _ _ ih=>exact congrArg (_:: ·) ih
theorem Nv.len(h:Nv c line ts is ns):ns.length=ts.length∧is.length=ts.length:=by
 induction h with
 |nil=>exact⟨rfl,rfl⟩
 |cons _ _ _ ih=>exact⟨congrArg (· +1) ih.1,congrArg (· +1) ih.2⟩
theorem Nv.tgt(h:Nv c line ts is ns):JT c (ns.map fun n=>A0I c.ce n) is:=by
 induction h with
 |nil=>exact .nil
 |cons hx _ _ ih=>exact .cons hx (fun v R E s w=>bindName_ w) ih
theorem JT.app{fs gs:List (aa→Sem Unit)}{is js:List Nat}(x:JT c fs is)(y:JT c gs js):JT c (fs++gs) (is++js):=by
 induction x with
 |nil=>exact y
 |cons a b _ ih=>exact .cons a b ih
theorem JT.rev{fs:List (aa→Sem Unit)}{is:List Nat}(x:JT c fs is):JT c fs.reverse is.reverse:=by
 induction x with
 |nil=>exact .nil
 |cons a b _ ih=>rw[qv,qv];exact ih.app (.cons a b .nil)
theorem ZZ.rev{w:b3}{h:Heap}{l:List D}{vs:List aa}(x:ZZ w ν h l vs):ZZ w ν h l.reverse vs.reverse:=by
 induction l generalizing vs with
 |nil=>cases x;exact .nil
 |cons d l ih=>cases x with|cons a r=>rw[qv,qv];exact(ih r).app (.cons a .nil)
end
set_option backward.match.sparseCases true
section
variable{C:Cx}{c:Cf}{ν:List Addr}{env:Ev}{st:St}{s s':ai}{X:Xp}{x:Str}{p p' pos:Pos}{k k':Nat}{e:Expr}{es es':List Expr}{a b:PE}{d:D}{cv:aa}{E:aa→ai→Prop}{h':Heap}{line:Nat}{ts vs:List Expr}{is:List Nat}{ns:List Str}
noncomputable def swF(ce:Env)(line:Nat):Expr→Option Str
 | .Name id pos=>if ce.kindOf id==some .local&&pos.line==line then some id else none
 |_=>none
theorem Nv.Aej(h:Nv c line ts is ns):ts.filterMap (swF c.ce line)=ns:=by
 induction h with
 |nil=>rfl
 |@cons x p ts i is ns hx hk _ ih=>exact(List.filterMap_cons_some (f:=swF c.ce line) (a:= .Name x p) (if_pos hk)).trans (congrArg _ ih)
theorem Hr(h:noStar vs=true):(vs.any fun| .Starred ..=>true|_=>false)=false:=by
 show vs.any isStar=false
 exact xw.mpr fun v hv q=>nomatch (congrArg (!·) q).symm.trans (az.mp h v hv:(!isStar v)=true)
structure mQ(c:Cf)(ts vs:List Expr)(is:List Nat)(ns:List Str):Prop where
 r:Nv c (Ao ts) ts is ns
 w:∀k p k' p',ux [.Tuple ts k p] (.Tuple vs k' p') c.ce=pure (some ns)
 nd:is.Nodup
 st:noStar vs=true
theorem ite_no{α:Type}{c:Prop}[Decidable c]{a b r:α}(h:¬c)(k:b=r):(if c then a else b)=r:=(if_neg h).trans k
theorem MJ(hk:c.ce.scope.kind= .function)(h:Ho c.ce.scope c.nm ts vs is=true):∃ns,mQ c ts vs is ns:=by
 have h1:=both h
 have h2:=both h1.2
 have h3:=both h2.2
 have h4:=both h3.2
 have h5:=both h4.2
 have h6:=both h5.2
 have h7:=both h6.2
 obtain⟨ns,y⟩:=iK h1.1
 refine⟨ns,y,fun k p k' p'=> ?_,of_decide_eq_true h7.2,h4.1⟩
 have n5:=h5.1
 rw[y.names] at n5
 have e3:(ns.length !=ts.length||ns.eraseDups.length !=ns.length)=false:=by
  rw[y.len.1,← y.len.1,show(ns.eraseDups.length !=ns.length)= !(ns.eraseDups.length==ns.length) from rfl,n5];simp
 have hb:c.ce.blockKind= .function:=by unfold Env.blockKind;rw[hk];rfl
 exact ite_no (c:=(!(ts.length==2||ts.length==3)||vs.length !=ts.length||c.ce.blockKind != .function)=true) (by rw[h2.1,hb,beq_iff_eq.mp h3.1];simp)
  (ite_no (fun q=>fh ((Hr h4.1).symm.trans q)) (y.Aej▸ite_no (c:=(ns.length !=ts.length||ns.eraseDups.length !=ns.length)=true) (by rw[e3];exact fh)
   (ite_no (by rw[(ia _).mp h6.1];exact fh) (ite_no (by rw[(ia _).mp h7.1];exact fh) rfl))))
theorem UW{cvs:List aa}{n:Nat}{Q:List aa→ai→Prop}(ok:c.Ok)(hn:n=cvs.length)(h:∀h',(∀b o,s.heap.get? b=some o→h'.get? b=some o)→Q cvs {s with heap:=h'}):
  Zh c.M c.A (unpackItems (.ref s.heap.objs.size) n none) Q E {s with heap:=s.heap.push (TV cvs.toArray 0)}:=by
 subst hn
 refine up (unpackItems_tuple (s:={s with heap:=s.heap.push (TV cvs.toArray 0)}) (t:=s.heap.objs.size) (items:=cvs.toArray) ok.handled ⟨_,b9 _ rfl,rfl,0,rfl⟩ fun h' k'=>h h' fun b o eb=>k' b o (ir ?_) (au _ eb))
 exact Nat.lt_of_lt_of_eq (Nat.lt_succ_of_lt (gq eb)) (ud ..).symm
theorem VR{l:Nat}{ce:Env}:yf [.Tuple ts k p] (.Tuple vs k' p') l ce=pure false:=rfl
theorem Nv.Aek(h:Nv c line ts is ns):ns.length=is.length:=h.len.1.trans h.len.2.symm
theorem Hp(ok:c.Ok)(h:Ho c.ce.scope c.nm ts vs is=true)(h1:∀ν,YD C c ν vs a):ZJ C c (.Assign [.Tuple ts k p] (.Tuple vs k' p') pos) (.VH is a):=fun ν env st N R X s i hq=>by
 refine aj fun hn=> ?_
 obtain⟨ns,y⟩:=MJ ok.kind h
 refine hn (Y3 (Y6 ((h1 ν _ _ _ _ _ _ i hq).then fun svs cvs st1 s1 q1 r1 i1 g1=>W5 q1 fun l e q=> ?_)) VR (y.w ..))
 have r:=W4 e r1
 have ⟨z,q⟩:=Yv q
 refine⟨r.length▸z,Zw q fun env' e' q=> ?_⟩
 have ⟨h2,hN⟩:=Uy q
 cases Vt h2 e' with
 |mk l' el hl eq=>
 cases el
 refine UW ok (y.r.Aek.trans (hl.symm.trans r.length)) fun h' kk=> ?_
 have tr:=y.r.tgt.rev
 rw[← List.map_reverse] at tr
 refine up (JT.run ok tr (i1.SO (t:=s1.toks) kk) (r.keeps kk).rev (by rw[A0j,A0j,hl]) fun s4 i4 _=> ?_)
 rw[A0k,← List.reverse_zipWith hl.symm,← A0k,An (by rw[List.map_fst_zip (u6 hl.symm)];exact y.nd),← eq] at i4
 exact⟨ν,_,st1,hN,i4⟩
theorem SR.SO{sv:S}{cv:aa}{h h':Heap}(x:c.SR ν h sv cv)(k:∀b o,h.get? b=some o→h'.get? b=some o):c.SR ν h' sv cv:=SR.kp x (fun b o e _ n=>⟨k b o e,n⟩) (fun a o g _ _=>k a o g) fun _ h=>h
theorem Jo{h:Heap}{j1 j2:Nat}{sv1 sv2:S}{cv1:aa}(ho:noOwn j1 env=true)(h2:ZO sv1=true→ZO sv2=true→¬c.SR ν h sv2 cv1):Hi c ν (env.set j2 (some sv2)) h j1 sv1 cv1:=fun o k sv' hk e o'=>by
 rcases Pz e with⟨_,q⟩|⟨_,e⟩
 ·cases q;exact h2 o o'
 ·exact nomatch (Jl ho hk e).symm.trans o'
theorem Aq{y:Str}{j1 j2:Nat}{sv1 sv2:S}{cv1 cv2:aa}{N:Ev→St→Prop}{R:D→St→Prop}(ok:c.Ok)(i:c.I ν env st s)(r1:c.SR ν s.heap sv1 cv1)(r2:c.SR ν s.heap sv2 cv2)(hx:YE c x j1)(hy:YE c y j2)
  (o2:Hi c ν env s.heap j2 sv2 cv2) (o1:∀h,c.SR ν h sv1 cv1→Hi c ν (env.set j2 (some sv2)) h j1 sv1 cv1) (h:N ((env.set j2 (some sv2)).set j1 (some sv1)) st):
  Zh c.M c.A (yg ([x,y].reverse.map fun n=>A0I c.ce n) [cv1,cv2].reverse) (fun _=>VQ c N R .next) E s:=
 Zb (m:=holding _ _) (Zd (XZ (up (Xo ok i r2 hy o2 fun s4 y4=>by
  have r1:c.SR ν s4.heap sv1 cv1:=y4.t.elim fun L q=>SR.turn r1 q.2 q.1 (y4.i.fν _ q.1)
  exact(Zb (m:=holding _ _) (Zd (XZ (up (Xo ok y4.i r1 hx (o1 _ r1) fun s5 y5=>(Zc (Q:=fun _=>VQ c N R .next) (show VQ c N R .next s5 from⟨ν,_,st,h,y5.i⟩):Zh c.M c.A _ _ E _))))):Zh c.M c.A (yg [A0I c.ce x] [cv1]) _ E s4)))))
theorem Nv.Abj(h:Nv c line ts is ns)(e:is=[]):ts=[]∧ns=[]:=by cases h with|nil=>exact⟨rfl,rfl⟩|cons=>exact nomatch e
theorem Nv.hd{j:Nat}{js:List Nat}(h:Nv c line ts is ns)(e:is=j::js):∃x px ts' ns',ts= .Name x px::ts'∧ns=x::ns'∧YE c x j∧Nv c line ts' js ns':=by
 cases h with
 |nil=>exact nomatch e
 |cons hx _ r=>exact⟨_,_,_,_,rfl,rfl,(ic e).1▸hx,(ic e).2▸r⟩
theorem Ny{j1 j2:Nat}(y:mQ c ts vs [j1,j2] ns):∃x y px py,ts=[.Name x px,.Name y py]∧ns=[x,y]∧YE c x j1∧YE c y j2:=by
 refine aj fun hn=> ?_
 obtain⟨x,px,ts',ns',e1,e2,h1,r⟩:=y.r.hd rfl
 obtain⟨y,py,ts2,ns2,e3,e4,h2,r⟩:=r.hd rfl
 exact hn (⟨x,y,px,py,by rw[e1,e3,(r.Abj rfl).1],by rw[e2,e4,(r.Abj rfl).2],h1,h2⟩)
structure uP(c:Cf)(ν:List Addr)(env:Ev)(st:St)(s:ai)(a:Addr)(l:List D)(H:Heap):Prop where
 i:c.I (a::ν) env st {s with heap:=H}
 r:c.SR (a::ν) H (.own l) (.ref a)
 k:∀b o,s.heap.get? b=some o→H.get? b=some o
 n:s.heap.get? a=none
theorem MK{l:List D}{cvs:List aa}(i:c.I ν env st s)(r:ZZ c.w ν s.heap l cvs)(z:cvs.length≤YU):uP c ν env st s s.heap.objs.size l (s.heap.push (Zo cvs.toArray 0)):=
 have e0:(s.heap.push (Zo cvs.toArray 0)).get? s.heap.objs.size=some (Zo cvs.toArray 0):=b9 _ rfl
 have k1:∀b o,s.heap.get? b=some o→(s.heap.push (Zo cvs.toArray 0)).get? b=some o:=fun b o=>au _
 ⟨i.grow (t:=s.toks) (Zs _) e0 Ym k1,GV i (Zs _) e0 k1 r z,k1,Zs _⟩
theorem Hs{lp:Pos}{j1 j2:Nat}(ok:c.Ok)(h:Ho c.ce.scope c.nm ts [.List es lp,e] [j1,j2]=true)
  (h1:∀ν,YD C c ν es a) (h2:∀ν,ZL C c ν e b):ZJ C c (.Assign [.Tuple ts k p] (.Tuple [.List es lp,e] k' p') pos) (.Gb j1 j2 a b):=fun ν env st N R X s i hq=>by
 refine aj fun hn=> ?_
 obtain⟨ns,y⟩:=MJ ok.kind h
 obtain⟨x,y',px,py,rfl,rfl,hx,hy⟩:=Ny y
 refine hn (Y3 (Y6 ?_) VR (y.w ..))
 rw[show backTo p' (starEach [.List es lp,e] c.ce)=(false,eval (.List es lp) c.ce)::[(false,eval e c.ce)] from ZH y.st]
 refine ZG (ZM ((h1 ν _ _ _ _ _ _ i hq).then fun svs cvs st1 s1 q1 r1 i1 g1=>W5 q1 fun l e1 q=> ?_))
 have r:=W4 e1 r1
 have ⟨z,q⟩:=Yv q
 have ⟨ho,q⟩:=Zk q
 rw[r.length] at z
 refine⟨z,?_⟩
 have O:=MK i1 r z
 generalize s1.heap.push _=H at O ⊢
 generalize s1.heap.objs.size=A at O ⊢
 refine ZG ((h2 _ _ _ _ _ _ O.i q).then fun sv2 cv2 st2 s2 q2 r2 i2 g2=>Z6 (P1 q2 r2 fun d q r2=>⟨(by decide:2≤16777216),?_⟩))
 have ro:=SR.go O.r O.i g2
 exact UW (cvs:=[_,cv2]) ok rfl fun h' kk=>Aq (sv2:= .d d) ok (i2.SO (t:=s2.toks) kk) (SR.SO ro kk) (r2.keeps kk) hx hy Ah (fun h _=>Jo ho fun _ o=>nomatch o) q
theorem Hq{lp lp':Pos}{j1 j2:Nat}(ok:c.Ok)(h:Ho c.ce.scope c.nm ts [.List es lp,.List es' lp'] [j1,j2]=true)
  (h1:∀ν,YD C c ν es a) (h2:∀ν,YD C c ν es' b):ZJ C c (.Assign [.Tuple ts k p] (.Tuple [.List es lp,.List es' lp'] k' p') pos) (.HZ j1 j2 a b):=fun ν env st N R X s i hq=>by
 refine aj fun hn=> ?_
 obtain⟨ns,y⟩:=MJ ok.kind h
 obtain⟨x,y',px,py,rfl,rfl,hx,hy⟩:=Ny y
 refine hn (Y3 (Y6 ?_) VR (y.w ..))
 rw[show backTo p' (starEach [.List es lp,.List es' lp'] c.ce)=(false,eval (.List es lp) c.ce)::[(false,eval (.List es' lp') c.ce)] from rfl]
 refine ZG (ZM ((h1 ν _ _ _ _ _ _ i hq).then fun svs cvs st1 s1 q1 r1 i1 g1=>W5 q1 fun l e1 q=> ?_))
 have r:=W4 e1 r1
 have ⟨z,q⟩:=Yv q
 have ⟨ho,q⟩:=Zk q
 rw[r.length] at z
 refine⟨z,?_⟩
 have O:=MK i1 r z
 generalize s1.heap.push _=H at O ⊢
 generalize s1.heap.objs.size=A at O ⊢
 refine ZG (ZM ((h2 _ _ _ _ _ _ _ O.i q).then fun svs2 cvs2 st2 s2 q2 r2 i2 g2=>W5 q2 fun l' e2 q2=> ?_))
 have rr2:=W4 e2 r2
 have ⟨z2,q2⟩:=Yv q2
 have ⟨hne,q2⟩:=Zk q2
 rw[rr2.length] at z2
 refine⟨z2,Z6 ⟨(by decide:2≤16777216),?_⟩⟩
 have P:=MK i2 rr2 z2
 have ro:=SR.grow (SR.go O.r O.i g2) P.n P.k
 generalize s2.heap.push _=H2 at P ro ⊢
 generalize s2.heap.objs.size=A2 at P ro ⊢
 exact UW (s:={s2 with heap:=H2}) (cvs:=[.ref A,.ref A2]) ok rfl fun h' kk=>Aq (sv2:= .own l') ok (P.i.SO (t:=s2.toks) kk) (SR.SO ro kk) (SR.SO P.r kk) hx hy (MH (both ho).2) (fun h r0=>Jo (both ho).1 fun _ _ rx=>by
  cases rx with
  |mk a1 xs1 n1 ea ga ra=>cases r0 with
   |mk a2 xs2 n2 ea2 ga2 ra2=>
    cases ea2;cases ea
    cases ga.symm.trans ga2
    rw[ra2.length,ra.length,Nat.beq_refl] at hne
    exact nomatch hne) q2
end
noncomputable def Xk(w:Bool)(sc:eg)(nm:List (Str × Nat))(x:Str)(i:Nat):Bool:=nm.lookup x==some i&&(sc.names.lookup x==some .local||(w&&sc.names.lookup x==some .cell))
noncomputable def EM(w:Bool)(sc:eg)(nm:List (Str × Nat)):List Expr→List Nat→Bool
 |[],is=>is.isEmpty
 |t::ts,is=>match is with
  |i::is=>(nameOf t).any (fun x=>Xk w sc nm x i)&&EM w sc nm ts is
  |[]=>false
noncomputable def isTup:Expr→Bool
 | .Tuple ..=>true
 |_=>false
theorem Sh{ts:List Expr}{k:Nat}{p:Pos}{v:Expr}{ce:Env}(h:isTup v=false):ux [.Tuple ts k p] v ce=pure none:=by
 cases v<;>first|rfl|exact nomatch h
section
variable{C:Cx}{c:Cf}{ν:List Addr}{env:Ev}{st:St}{s s':ai}{X:Xp}{x:Str}{p pos:Pos}{j k:Nat}{e:Expr}{a:PE}{d:D}{cv:aa}{E:aa→ai→Prop}{ts:List Expr}{is:List Nat}
theorem Ys{i:Nat}(ok:c.Ok)(h:Xk c.wr c.ce.scope c.nm x i=true):YE c x i:=
 have h:=both h
 (jv.mp h.2).elim (fun q=> .loc (beq_iff_eq.mp h.1) (beq_iff_eq.mp q)) fun q=> .cell (beq_iff_eq.mp h.1) (beq_iff_eq.mp (both q).2) (ok.Sb x (beq_iff_eq.mp (both q).2)) (both q).1
structure TgR(c:Cf)(ts:List Expr)(is:List Nat):Prop where
 t:JT c ((A0C ts c.ce).map (·.2)) is
 f:(A0C ts c.ce).findIdx? (·.1)=none
 l:(A0C ts c.ce).length=is.length
theorem Ar(ok:c.Ok)(h:EM c.wr c.ce.scope c.nm ts is=true):TgR c ts is:=by
 induction ts generalizing is with
 |nil=>cases b6.mp h;exact⟨.nil,rfl,rfl⟩
 |cons t ts ih=>cases is with
  |nil=>exact ff h
  |cons i is=>
   have h:=both h
   obtain⟨x,e,q⟩:=Zg h.1
   obtain⟨p,e⟩:=ZC e
   subst e
   have y:=ih h.2
   exact⟨.cons (Ys ok q) (fun v R E s w=>ya w) y.t,xe.trans (congrArg (A2l (· +1)) y.f),congrArg (· +1) y.l⟩
theorem Nz{l:List D}{R:Unit→ai→Prop}(ok:c.Ok)(i:c.I ν env st s)(h:EM c.wr c.ce.scope c.nm ts is=true)(r:DR c.w ν s.heap (.tup l) cv)(hl:l.length=is.length)
  (hR:∀s',c.I ν (P4 env (is.zip l)) st s'→Mv c s s'→R () s'):wpAny c.M c.A (assign (.Tuple ts k p) c.ce cv) R E s:=
 have y:=Ar ok h
 match r.inv with
 |⟨a,xs,n,e,g1,g2,g3,g4⟩=>e▸assign_Tuple_tuple ok.handled ⟨_,g1,rfl,n,rfl⟩ (y.l.trans (hl.symm.trans g3.size)) y.f fun h' he=>
  have kk:∀b o,s.heap.get? b=some o→h'.get? b=some o:=fun b o eb=>he b o (ir (gq eb)) eb
  JT.run ok y.t (i.SO (t:=s.toks) kk) (g3.keeps kk) hl fun s2 i2 m=>hR s2 i2 fun b o e h=>m b o (kk b o e) h
theorem EL(ok:c.Ok)(hc:YR e=false)(ht:isTup e=false)(h:EM c.wr c.ce.scope c.nm ts is=true)(h1:∀ν,ZL C c ν e a):ZJ C c (.Assign [.Tuple ts k p] e pos) (.Ur is a):=fun ν env st N R X s i hq=>
 Ux ((h1 ν _ _ _ _ _ i hq).then fun sv cv st1 s1 q1 r1 i1 g1=>P1 q1 r1 fun d q r=>Zw q fun env' e' q=>by
  have ⟨h2,hN⟩:=Uy q
  cases Vt h2 e' with
  |mk l el hl eq=>
  subst el
  exact up<|Nz ok i1 h r hl fun s2 i2 _=>⟨ν,_,st1,hN,eq▸i2⟩) (show swapsWith e (some (.Tuple ts k p)) pos.line c.ce=pure false from ZB hc) (Sh ht)
theorem YE.n(h:YE c x j):c.nm.lookup x=some j:=by cases h<;>assumption
theorem As{op:qx}(ok:c.Ok)(h:Xk c.wr c.ce.scope c.nm x j=true)(h1:∀ν,ZL C c ν e a)(hc:(x==("__classdict__":Str))=false):ZJ C c (.AugAssign (.Name x p) op e pos) (.aug j op a):=fun ν env st N R X s i hq=>
 have hx:=Ys ok h
 YZ hq fun v hv hq=>match i.VE with|⟨lm,cm,f⟩=>match f.val x j v hx.n hv with
  |⟨cv,v1,v2⟩=>UE (up (Qo ok hc f v1 ((h1 ν _ _ _ _ _ i hq).then fun sv cv2 st1 s1 q1 r1 i1 g1=>
   Pj (P:=fun op=>Zh c.M c.A (inplaceOp op cv cv2) _ _ s1) q1 fun q=>Z7 (P:=fun cv=>Zh c.M c.A (inplaceOp .Add cv cv2) _ _ s1) q v2 fun m t _ q=>Z7 (P:=fun cv2=>Zh c.M c.A (inplaceOp .Add _ cv2) _ _ s1) q r1 fun n u _ q=>
    up (iadd_int (up (Uj ok (i1.ks (KS.tok s1 _)) (DR.int _ _) hx fun s2 y=>⟨ν,_,st1,q,y.i⟩))))))
end
section
variable{C:Cx}{c:Cf}{ν:List Addr}{env:Ev}{st:St}{s s':ai}{X:Xp}{x m:Str}{j:Nat}{sv sv':S}{a:Addr}{lm cm:Str→Option aa}{es:List Expr}{pe:PE}{p ap cp pos:Pos}
inductive Ael(c:Cf)(ν:List Addr)(cv:aa):Prop
 |mk (a:Addr) (e:cv= .ref a) (m:WK c ν a)
theorem uQ{h:Heap}{cv:aa}(ho:ZO sv=true)(r:c.SR ν h sv cv):Ael c ν cv:=by
 cases sv with
 |own l=>exact match r with|⟨b,_,_,e,_,_,_,m⟩=>⟨b,e,m⟩
 |X4 l=>exact match r with|⟨b,_,e,_,_,_,m⟩=>⟨b,e,m⟩
 |_=>exact nomatch ho
theorem uR{h:Heap}{P:Prop}(ho:ZO sv=true)(r:c.SR ν h sv (.ref a))(k:∀o,h.get? a=some o→LB o→P):P:=by
 cases sv with
 |own l=>exact match r with|⟨b,_,_,e,g,_,_,m⟩=>by cases e;exact k _ g G8
 |X4 l=>exact match r with|⟨b,_,e,g,_,_,m⟩=>by cases e;exact k _ g mJ
 |_=>exact nomatch ho
theorem iM(ok:c.Ok)(i:c.I ν env st s)(f:Nn c ν env s.heap lm cm)(hx:c.nm.lookup x=some j)(hj:env[j]?=some (some sv))(ho:ZO sv=true)(hv:Sx c.ce lm cm x=some (.ref a))(m:WK c ν a)(y:Turn a s s')(ho':ZO sv'=true)
  (r':c.SR ν s'.heap sv' (.ref a)):c.I ν (env.set j (some sv')) st s':=
 have one:∀z k sv1,c.nm.lookup z=some k→k≠j→env[k]?=some (some sv1)→ZO sv1=true→Sx c.ce lm cm z≠some (.ref a):=fun z k sv1 hz hk e o v=>hk (f.KW z x k j _ _ _ hz hx e hj o ho v hv)
 i.turn y m.ν m.h0 m.v ⟨lm,cm,f.store ok (f.ns.elim fun o q=>q.elim fun es q=>q.elim fun ep q=>⟨o,es,ep,y.keep _ _ q.1 fun q=>m.f (q▸f.lν),q.2⟩) (fun n b e=>(f.cell n b e).to fun o g _=>y.keep _ _ g fun q=>(f.cell n b e).is.elim fun o1 w=>match f.val x j sv hx hj with|⟨cv,v1,v2⟩=>uR ho (bh (v1.symm.trans hv)▸v2) fun o2 g2 l=>l.c _ (congrArg Obj.data (bh (g2.symm.trans (q▸w.1)))▸w.2))
  (fun z k sv1 cv1 hz hk e v1 v2=>by
   have ne:ZO sv1=true→∀b,cv1= .ref b→b≠a:=fun o b q w=>one z k sv1 hz hk e o (w▸q▸v1)
   cases sv1 with
   |d v=>exact DR.mono (y.kp m.ν) v2
   |tag t=>exact v2
   |own l=>exact match v2 with|⟨b,xs,n,e,g,r,z,q⟩=>⟨b,xs,n,e,y.keep _ _ g (ne rfl b e),r.mono (y.kp m.ν),z,q⟩
   |X4 l=>exact match v2 with|⟨b,xs,e,g,r,z,q⟩=>⟨b,xs,e,y.keep _ _ g (ne rfl b e),r,z,q⟩) r' hx hv (fun _ _=>rfl) (fun z k sv1 cv1 hz hk e _ o v1 _ q=>one z k sv1 hz hk e o (q▸v1))⟩
theorem Turn.of{h':Heap}{t:Nat}(y:gu a s.heap h'){o:Obj}(e:h'.get? a=some o)(n:NF o):Turn a s {s with heap:=h',toks:=t}:=⟨fun b o e hb=>y.extBut b o hb e,fun _ _ _=>⟨o,e,n⟩,rfl,rfl⟩
noncomputable def ownCall(x m:Str)(p ap cp pos:Pos)(es:List Expr):Stmt:= .Expr (.Call (.Attribute (.Name x p) m ap) es [] cp) pos
structure Abk(c:Cf)(ν:List Addr)(env:Ev)(st:St)(s:ai)(x:Str)(j:Nat)(sv:S)(a:Addr)(lm cm:Str→Option aa):Prop where
 i:c.I ν env st s
 f:Nn c ν env s.heap lm cm
 v:Sx c.ce lm cm x=some (.ref a)
 r:c.SR ν s.heap sv (.ref a)
 m:WK c ν a
theorem VS{id:String}{Q:List S→St→Prop}{R:Flow→ai→Prop}(ok:c.Ok)(i:c.I ν env st s)(hn:noStar es=true)(hl:es.length<30)(hx:c.nm.lookup x=some j)(hj:env[j]?=some (some sv))(ho:ZO sv=true)
  (hd:(x==("__debug__":Str))=false) (hc:(x==("__classdict__":Str))=false) (hp:ap.endLine=cp.line)
  (hgm:∀(a:Addr) (pl:Sem Bool) (Q:aa × List aa→ai→Prop) (E:aa→ai→Prop),c.SR ν s.heap sv (.ref a)→Q (.builtin id,[.ref a]) s→Zh c.M c.A (wk (.ref a) m pl) Q E s)
  (h:YD C c ν es pe) (hq:Wa C pe env st Q X)
  (k:∀(a:Addr) lm cm svs cvs st1 s1,Q svs st1→SS c ν s1.heap svs cvs→Abk c ν env st1 s1 x j sv a lm cm→Zh c.M c.A (PySem.call (.builtin id) (.ref a::cvs)) (fun v s2=>(∀a,v≠.ref a)∧R .next s2) (c.RX X) s1):
  Zh c.M c.A (exec (ownCall x m p ap cp pos es) c.ce) R (c.RX X) s:=by
 refine Q2 (Zi (Q:=fun v s2=>(∀a,v≠.ref a)∧R .next s2) ?_ (fun v s2 hv=> ?_) fun _ _ e=>e) (by unfold interactive;rw[ok.kind];rfl) rfl
 ·cases i.VE with
  |mk lm cm f=>
  cases f.val x j sv hx hj with
  |mk cv v1 v2=>
  cases uQ ho v2 with
  |mk a e mm=>
  subst e
  refine GP rfl hn hl hp (Q4 (up<|Qo ok hc f v1 fun pl=>hgm a _ _ _ v2 ?_) hd)
  exact(Y5 (plain_any hn) (Yu (plain_any hn) ((h _ _ _ _ _ _ i hq).then fun svs cvs st1 s1 q1 r1 i1 g1=>k a lm cm svs cvs st1 s1 q1 r1 ⟨i1,f.go i g1.h,v1,SR.go v2 i g1,mm⟩)))
 ·cases v<;>first|exact hv.2|exact(hv.1 _ rfl).elim
end
section
open Sem (wp)
set_option backward.match.sparseCases true
theorem U6:PlainAttrs "bytearray":=
 ⟨⟨"bytearray.__getattribute__",by rw[gk,dj];kernel_rfl,by decide+kernel⟩,by rw[gk,dj];kernel_rfl⟩
theorem Ww:Slot "bytearray" "append" "bytearray.append":=
 .of (owner:="bytearray") (n:="append") (by rw[gk,dj];kernel_rfl) (by decide+kernel) (by decide+kernel) (by decide+kernel)
  (by first|exact .inl (by decide+kernel)|exact .inr (by decide+kernel)) (by rw[oq];kernel_rfl)
theorem VX:typeOf (.builtin "bytearray.append")=pure (.type "method_descriptor"):=by show builtinType _=_;rw[builtinType_eq_fast];kernel_rfl
theorem RH:ue A06 "bytearray.append"=some jt.«bytearray.append»:=rt (by kernel_rfl)
theorem Xq:Slot "bytearray" "extend" "bytearray.extend":=
 .of (owner:="bytearray") (n:="extend") (by rw[gk,dj];kernel_rfl) (by decide+kernel) (by decide+kernel) (by decide+kernel)
  (by first|exact .inl (by decide+kernel)|exact .inr (by decide+kernel)) (by rw[oq];kernel_rfl)
theorem VV:typeOf (.builtin "bytearray.extend")=pure (.type "method_descriptor"):=by show builtinType _=_;rw[builtinType_eq_fast];kernel_rfl
theorem V4:ue A06 "bytearray.extend"=some jt.«bytearray.extend»:=rt (by kernel_rfl)
theorem VT:ue A06 "bytearray.extend.loop"=some jt.«bytearray.extend.loop»:=rt (by kernel_rfl)
theorem Uu:ue A06 "bytearray.extend.end"=some jt.«bytearray.extend.end»:=rt (by kernel_rfl)
theorem P5(a b:aa):argsOk "bytearray.append" ⟨[a,b],[]⟩:=by
 unfold argsOk;kernel_rfl
theorem VU(a b:aa):argsOk "bytearray.extend" ⟨[a,b],[]⟩:=by
 unfold argsOk;kernel_rfl
section
variable{M:o8}{A:bz}{E:aa→ai→Prop}{s:ai}
theorem Rv{self:aa}{Q:Bool→ai→Prop}(h:Q false s):Zh M A (zd self) Q E s:=fun Γ p hΓ hc=>by
 unfold zd
 rw[tu]
 show Q (List.any ((Γ.code,p)::Γ.below) _) s
 have any_:∀f:Code × Pos→Bool,(∀c q,Xc c=true→f (c,q)=false)→List.any ((Γ.code,p)::Γ.below) f=false:=fun f hf=>
  xw.mpr fun x hm q=>fh ((hf x.1 x.2 ((ay.mp hm).elim (fun e=>e▸hc.1) (hc.2 _))).symm.trans q)
 rw[any_ _ fun c q hcl=> ?_]
 ·exact h
 ·cases c with
  |builtin id args=>
   have hn:∀x,x∈Ve→id≠x:=fun x hx e=>by
    have:(!Ve.contains id)=true:=hcl
    rw[e,mw.mpr hx] at this
    exact nomatch this
   delta A1f
   refine A03 (dif_neg (hn "bytearray.__contains__" (by decide))) ?_
   refine A03 (dif_neg (hn "bytearray.__mod__" (by decide))) ?_
   refine A03 (dif_neg (hn "bytearray.__rmod__" (by decide))) ?_
   refine A03 (dif_neg (hn "_struct.pack_into.held" (by decide))) ?_
   refine A03 (dif_neg (hn "bytearray.find.held" (by decide))) ?_
   obtain⟨pos,kw⟩:=args
   cases pos with
   |nil=>rfl
   |cons v r=>
    show(_&&oi.contains id)=false
    rw[show oi.contains id=false from Bool.eq_false_iff.mpr fun q=>hn id (e7 _ (mw.mp q)) rfl,u7]
  |_=>rfl
theorem Av{α:Type}{c:Prop}[Decidable c]{a b:Sem α}{Q:α→ai→Prop}(hc:c)(h:Zh M A a Q E s):Zh M A (if c then a else b) Q E s:=by rw[if_pos hc];exact h
theorem Yi{α:Type}{c:Prop}[Decidable c]{a b:Sem α}{Q:α→ai→Prop}(hc:¬c)(h:Zh M A b Q E s):Zh M A (if c then a else b) Q E s:=by rw[if_neg hc];exact h
theorem VW{a:Addr}{b:Array UInt8}{Q:Unit→ai→Prop}(hx:s.heap.get? a=some (Wc b))(h:Q () s):Zh M A (ry (.ref a)) Q E s:=by
 unfold ry
 refine Zb ?_
 unfold orM
 refine Zb (Rv ?_)
 refine Zb (m:=ou (.ref a)) ?_
 unfold ou
 refine Zb (up (nu hx (Zc (Zc ?_))))
 exact Zc h
theorem Sk{x:Int}{t:Tok}{Q:UInt8→ai→Prop}(h0:ZR x=true)(h:Q x.toNat.toUInt8 s):wpAny M A (yx (.int x t)) Q E s:=by
 unfold yx
 refine ak (iz (rfl:asIndex (.int x t)=pure x) ?_)
 unfold ZR at h0
 simp only[Bool.and_eq_true,decide_eq_true_eq] at h0
 rw[if_neg fun q=>(jv.mp q).elim (fun q=>mh.mpr h0.1 (of_decide_eq_true q)) fun q=>jc.mpr h0.2 (of_decide_eq_true q)]
 exact bg h
theorem W7{a:Addr}{b:Array UInt8}{f:Array UInt8→Array UInt8}{Q:Unit→ai→Prop}(hx:s.heap.get? a=some (Wc b))(hz:(f b).size≤YU)
  (h:∀h',gu a s.heap h'→h'.get? a=some (Wc (f b))→Q () {s with heap:=h'}):wpAny M A (qh a f) Q E s:=by
 unfold qh
 refine ak (nu hx ?_)
 have e:(s.heap.update a (Obj.mapBytearray f)).get? a=some (Wc (f b)):=jg _ hx rfl
 refine ak (wpAny_update hx ?_)
 refine wpAny_lookBehind (o:=Wc (f b)) e ?_ (h _ (m5 ..) e)
 show(if (f b).size>sizeLine then some "bytearray:memory" else none)=none
 exact if_neg (r8.mpr hz)
end
section
variable{prog:k9}{w:b3}{A:bz}{E:aa→ai→Prop}{s:ai}
theorem Si{id:String}{args:Args}(h:Ve.contains id=false):Xc (.builtin id args)=true:=by show(!Ve.contains id)=true;rw[h];rfl
theorem GW{id:String}{args:Args}{b:jt}(hb:ue A06 id=some b):(model prog w).den (.builtin id args)=b args:=by
 show(match ue A06 id with|some b=>b args|none=>unsupported ((withoutEnding? id "#data").getD id))=_
 rw[hb]
theorem W8{T:String}{name:Str}{id:String}{b:jt}{self:aa}{rest:List aa}{Q:aa→ai→Prop}(h:Slot T name id)(hT:s.TypeIs self T)(hb:ue A06 id=some b)(hcl:Ve.contains id=false)
  (ha:argsOk id ⟨self::rest,[]⟩)
  (hc:Zh (model prog w) A.in1 (b ⟨self::rest,[]⟩) (fun fin s'=>match fin with| .done f=>(∃v,f= .ret v∧Q v s')| .again c'=>c'.quiet=true∧Xc c'=true∧ZU (model prog w) A c' (fun r s'=>match r with| .ok (.ret v)=>Q v s'| .ok _=>False| .error e=>E e s') s') E s):
  Zh (model prog w) A (call (.builtin id) (self::rest)) Q E s:=by
 have hcl':Xc (.builtin id ⟨self::rest,[]⟩)=true:=by show(!Ve.contains id)=true;rw[hcl];rfl
 refine XD (Z3 ?_)
 rw[show A.under (.call (.builtin id) ⟨self::rest,[]⟩)=A.in1 from sy (by rfl) rfl]
 show Zh (model prog w) A.in1 (do jb id ⟨self::rest,[]⟩;again (.builtin id ⟨self::rest,[]⟩)) _ _ s
 refine Zb (up (h.check _ _ _ _ _ _ _ _ hT ha (Zc ⟨qk h.plain _,hcl',Z3 ?_⟩)))
 rw[lg h.plain _]
 show Zh (model prog w) A.in1 (match ue A06 id with|some b=>b ⟨self::rest,[]⟩|none=>unsupported ((withoutEnding? id "#data").getD id)) _ _ s
 rw[hb]
 refine Zi hc (fun fin s' hf=> ?_) fun _ _ e=>e
 cases fin with
 |done f=>obtain⟨v,rfl,hv⟩:=hf;exact hv
 |again c'=>exact hf
theorem N1{a:Addr}{b:Array UInt8}{x:Int}{t:Tok}{Q:aa→ai→Prop}(hx:s.heap.get? a=some (Wc b))(h0:ZR x=true)(hz:b.size+1≤YU)
  (h:∀h',gu a s.heap h'→h'.get? a=some (Wc (b.push x.toNat.toUInt8))→Q .none {s with heap:=h'}):Zh (model prog w) A (call (.builtin "bytearray.append") [.ref a,.int x t]) Q E s:=by
 refine W8 Ww ⟨_,hx,rfl⟩ RH (by decide+kernel) (P5 _ _) ?_
 unfold jt.«bytearray.append»
 refine Zb (m:=selfAndOne "bytearray.append" _) (Zc ?_)
 refine Zb (up (Sk h0 ?_))
 refine Zb (VW hx ?_)
 refine Zb (m:=qh a _) (up (W7 hx (by rw[vq];exact hz) fun h' hs e=> ?_))
 exact Zc ⟨.none,rfl,h h' hs e⟩
theorem Yj:ju (.type "bytes") "__buffer__"=pure (some (.builtin "bytes.__buffer__")):=by rw[gk,dj];kernel_rfl
theorem SY:ju (.type "bytes") "__release_buffer__"=pure none:=by rw[gk,dj];kernel_rfl
theorem uT:isSubtype (.type "bytes") (.type "bytes")=pure true:=by rw[oq];kernel_rfl
theorem N3{m:Array UInt8}{t:Tok}{R:Bool→ai→Prop}(h:R true s):wpAny (model prog w) A (jn (.bytes m t) "__buffer__") R E s:=by
 unfold jn
 refine ak (fj (j0 _ _ _) Yj ?_)
 refine j9 (by decide+kernel) ?_
 exact rm (j0 _ _ _) (by rw[show(("bytes.__buffer__":String).dropRight (("__buffer__":String).length+1))="bytes" by decide+kernel];exact uT) h
theorem Hu{m:Array UInt8}{t:Tok}{R:Bool→ai→Prop}(h:R false s):wpAny (model prog w) A (o7 (.bytes m t)) R E s:=by
 unfold o7 jn
 refine ak (ak (fj (j0 _ _ _) SY ?_))
 exact bg (bg h)
theorem iO{id:String}{m:Array UInt8}{t:Tok}{R:Option (Array UInt8 × Option aa)→ai→Prop}(h:R (some (m,none)) s):wpAny (model prog w) A (ur id (.bytes m t) 0) R E s:=by
 unfold ur
 refine ak (wpAny_attempt ?_)
 unfold Builtin.Bytes.takeBuffer?
 refine ak (fj (j0 _ _ _) Yj ?_)
 refine ak (N3 ?_)
 refine j9 rfl ?_
 refine ak (fj (j0 _ _ _) Yj ?_)
 refine ak ?_
 unfold ql
 refine ak (fj (j0 _ _ _) Yj ?_)
 refine ak (N3 ?_)
 refine j9 rfl ?_
 refine ak (fj (j0 _ _ _) Yj ?_)
 refine ak (Hu ?_)
 refine j9 rfl ?_
 refine ak ?_
 unfold qm
 refine ak (m:=uc _) (bg ?_)
 exact bg (bg (bg (bg h)))
theorem P6{a:Addr}{b:Array UInt8}{R:Array UInt8→ai→Prop}(hx:s.heap.get? a=some (Wc b))(h:R b s):wpAny (model prog w) A (qm (.ref a)) R E s:=by
 unfold qm
 refine ak ?_
 unfold uc
 exact ak (nu hx (bg (bg h)))
theorem Ru{a:Addr}{b m:Array UInt8}{Q:Fin→ai→Prop}(hx:s.heap.get? a=some (Wc b))(hz:b.size+m.size≤YU)
  (h:∀h',gu a s.heap h'→h'.get? a=some (Wc (b++m))→Q (.done (.ret .none)) {s with heap:=h'}):
  Zh (model prog w) A (do
   if !m.isEmpty then ry (.ref a)
   A0m (.ref a) (· ++m)
   ret .none) Q E s:=by
 have fin:Zh (model prog w) A (do A0m (.ref a) (· ++m);ret .none) Q E s:=
  Zb (m:=qh a _) (up (W7 hx (by rw[qt];exact hz) fun h' hs e=>Zc (h h' hs e)))
 cases hm:m.isEmpty with
 |true=>exact fin
 |false=>exact Zb (VW hx fin)
theorem XJ{b:Array UInt8}:(Rt b).length=b.size:=by simp [Rt]
theorem RI{a:Addr}{b m:Array UInt8}{t:Tok}{Q:aa→ai→Prop}(hx:s.heap.get? a=some (Wc b))(hz:b.size+m.size≤YU)
  (h:∀h',gu a s.heap h'→h'.get? a=some (Wc (b++m))→Q .none {s with heap:=h'}):Zh (model prog w) A (call (.builtin "bytearray.extend") [.ref a,.bytes m t]) Q E s:=by
 refine W8 Xq ⟨_,hx,rfl⟩ V4 (by decide+kernel) (VU _ _) ?_
 unfold jt.«bytearray.extend»
 refine Zb (m:=selfAndOne "bytearray.extend" _) (Zc ?_)
 refine Zb (up (fj (j0 _ _ _) Yj ?_))
 show Zh _ _ (rule "bytearray.extend.bytes-like">>=_) _ _ _
 refine VF ?_
 refine Zb (up (P6 hx ?_))
 refine Zb (up (iO ?_))
 refine Av rfl ?_
 refine Zi (Ru (Q:=fun fin s'=>fin= .done (.ret .none)∧Q .none s') hx hz fun h' hs e=>⟨rfl,h h' hs e⟩) (fun fin s' hf=> ?_) fun _ _ e=>e
 obtain⟨rfl,hq⟩:=hf
 exact⟨.none,rfl,hq⟩
theorem P8:ju (.type "list") "__buffer__"=pure none:=by rw[gk,dj];kernel_rfl
theorem Jq:ju (.type "list") "__len__"=pure (some (.builtin "list.__len__")):=by rw[gk,dj];kernel_rfl
theorem uS:isSubtype (.type "list") (.type "list")=pure true:=by rw[oq];kernel_rfl
theorem EN{x:Addr}{xs:Array aa}{n:Nat}{Q:Unit→ai→Prop}(hx:s.heap.get? x=some (Zo xs n))(h:Q () s):wpAny (model prog w) A (yk "bytearray.extend" (.ref x)) Q E s:=by
 have hT:s.TypeIs (.ref x) "list":=⟨_,hx,rfl⟩
 unfold yk
 refine ak (fj hT Jq ?_)
 dsimp only
 rw[show splitId "list.__len__"=some ("list","__len__") by decide+kernel]
 dsimp only
 refine ak (rm hT uS ?_)
 refine j9 (by decide) ?_
 refine zb (by decide+kernel) ?_
 exact bg h
inductive Aem(s:ai)(I S x:Addr)(ns:List Int)(k:Nat)(s':ai):Prop
 |mk (i:Nat) (h':Heap) (le:i≤ns.length) (ek:k=ns.length+1 - i) (es:s'={s with heap:=h'}) (k:∀c o,c≠I→c≠S→s.heap.get? c=some o→h'.get? c=some o) (li:h'.IsListIter I x i) (ba:h'.get? S=some (Wc (byteArr (ns.take i))))
theorem Jr{a x I S:Addr}{b:Array UInt8}{xs:Array aa}{n:Nat}{ns:List Int}{R:ly→ai→Prop}(hh:A.handled=none)(hx:s.heap.get? a=some (Wc b))(hl:s.heap.get? x=some (Zo xs n))(hi:qf xs.toList ns)(hb:ns.all ZR=true)(hz:b.size+ns.length≤YU)
  (hI:s.heap.IsListIter I x 0) (hS:s.heap.get? S=some (Wc #[])) (n1:a≠I) (n2:a≠S) (n3:x≠I) (n4:x≠S) (n5:I≠S) (n6:a≠x)
  (h:∀h' t,(∀c o,c≠a→c≠I→c≠S→s.heap.get? c=some o→h'.get? c=some o)→h'.get? a=some (Wc (b++byteArr ns))→R (.ok (.ret .none)) {s with heap:=h',toks:=t}):
  ZU (model prog w) A (.builtin "bytearray.extend.loop" ⟨[.ref a,.ref x,.ref I,.ref S],[]⟩) R s:=by
 have hzn:ns.length≤YU:=ao (n9 _ _) hz
 refine Vd (qk (by decide+kernel) _) (Si (by decide+kernel)) (Aem s I S x ns) ?_ (ns.length+1) ⟨0,s.heap,ie _,rfl,rfl,fun _ _ _ _ e=>e,hI,hS⟩
 intro k s' y
 cases y with|mk i h' hle ek es hk hI' hS'=>
 subst ek es
 rw[lg (by decide+kernel) _,GW VT]
 have hl':h'.get? x=some (Zo xs n):=hk _ _ n3 n4 hl
 have hx':h'.get? a=some (Wc b):=hk _ _ n1 n2 hx
 have hsz:xs.size=ns.length:=by rw[← ez,hi.length]
 unfold jt.«bytearray.extend.loop»
 by_cases hlt:i<ns.length
 ·have hxi:xs[i]?=some (xs[i]'(hsz▸hlt)):=ru _
  obtain⟨m,t,e1,e2⟩:=hi.at i _ (by rw[fq];exact hxi)
  rw[e1] at hxi
  refine Zb (up (wpAny_pyNext_list_item (s:={s with heap:=h'}) hI' ⟨_,hl',rfl,n,rfl⟩ hxi fun h₁ hI₁ hs₁=> ?_))
  have hm:ZR m=true:=az.mp hb m (ig e2)
  dsimp only
  refine Zb (Tn (Zd (up (Sk hm ?_))))
  refine Zb (up (wpAny_letGo ?_))
  have hS₁:h₁.get? S=some (Wc (byteArr (ns.take i))):=(hs₁.2 S (Ne.symm n5)).trans hS'
  refine Zb (m:=qh S _) (up (W7 hS₁ (by rw[vq,zc,List.length_take];exact ao (cj (qg ..)) (ao hlt hzn)) fun h₂ hs₂ e₂=> ?_))
  refine Zc (.inl ⟨rfl,ns.length+1 - (i+1),sd (Nat.lt_succ_of_lt hlt) (gp i),i+1,h₂,hlt,rfl,rfl,fun c o c1 c2 e=>(hs₂.2 c c2).trans ((hs₁.2 c c1).trans (hk c o c1 c2 e)),?_,?_⟩)
  ·exact hI₁.imp fun o r=>⟨(hs₂.2 I n5).trans r.1,r.2⟩
  ·rw[byteArr_take e2];exact e₂
 ·have hin:i=ns.length:=zk hle (r8.mp hlt)
  subst hin
  refine Zb (up (wpAny_pyNext_list_end (s:={s with heap:=h'}) (by exact hh) hI' ⟨_,hl',rfl,n,rfl⟩ (by simp [hsz]) fun h₁ he₁=> ?_))
  refine Zc (.inr ⟨qk (by decide+kernel) _,Si (by decide+kernel),Z3 ?_⟩)
  rw[lg (by decide+kernel) _,GW Uu]
  unfold jt.«bytearray.extend.end»
  refine Zb (m:=point) (up (wpAny_point ?_))
  have hS₁:h₁.get? S=some (Wc (byteArr ns)):=by
   have:=he₁ S _ (Ne.symm n5) hS'
   rwa [List.take_length] at this
  have hx₁:=he₁ a _ n1 hx'
  refine Zb (up (P6 (s:={s with heap:=h₁}) hS₁ ?_))
  refine Zi (Ru (s:={s with heap:=h₁}) (Q:=fun fin s'=>fin= .done (.ret .none)∧R (.ok (.ret .none)) s') hx₁ (by rw[zc];exact hz) fun h₂ hs₂ e₂=>⟨rfl,h h₂ s.toks (fun c o c0 c1 c2 e=>(hs₂.2 c c0).trans (he₁ c o c1 (hk c o c1 c2 e))) e₂⟩) (fun fin s' hf=> ?_) fun _ _ e=>e
  obtain⟨rfl,hq⟩:=hf
  exact hq
theorem P7{a x:Addr}{b:Array UInt8}{xs:Array aa}{n:Nat}{ns:List Int}{Q:aa→ai→Prop}(hh:A.handled=none)(hx:s.heap.get? a=some (Wc b))(hl:s.heap.get? x=some (Zo xs n))(hi:qf xs.toList ns)(hb:ns.all ZR=true)(hz:b.size+ns.length≤YU)
  (h:∀h' t,(∀c o,c≠a→s.heap.get? c=some o→h'.get? c=some o)→h'.get? a=some (Wc (b++byteArr ns))→Q .none {s with heap:=h',toks:=t}):Zh (model prog w) A (call (.builtin "bytearray.extend") [.ref a,.ref x]) Q E s:=by
 have n6:a≠x:=fun q=>by
  subst q;rw[hx] at hl;injection hl with hl;injection hl with h1;simp at h1
 refine W8 Xq ⟨_,hx,rfl⟩ V4 (by decide+kernel) (VU _ _) ?_
 unfold jt.«bytearray.extend»
 refine Zb (m:=selfAndOne "bytearray.extend" _) (Zc ?_)
 refine Zb (up (fj (T:="list") ⟨_,hl,rfl⟩ P8 ?_))
 refine Yi (by decide) ?_
 refine Zb (Tn (up (y9 ⟨_,hl,rfl,n,rfl⟩ ?_)))
 have k1:∀{H:Heap} {c:Addr} {o o':Obj},H.get? c=some o→(H.push o').get? c=some o:=fun e=>au _ e
 refine Zb (Zd (up (EN (k1 hl) ?_)))
 refine Zb (m:=newObj (.type "bytearray") (.bytearray #[])) (up (qo ?_))
 have s1:(s.heap.push {cls:= .type "list_iterator",data:= .fields #[.ref x,.int 0 0]}).objs.size=s.heap.objs.size+1:=ud ..
 have la:=gq hx
 have lx:=gq hl
 refine Zc ⟨qk (by decide+kernel) _,Si (by decide+kernel),?_⟩
 refine Jr hh (k1 (k1 hx)) (k1 (k1 hl)) hi hb hz ⟨_,k1 (b9 _ rfl),rfl,rfl⟩ (b9 _ rfl) (ir la) ?_ (ir lx) ?_ ?_ n6 fun h' t k e=>h h' t (fun c o hc ec=>k c o hc (ir (gq ec)) ?_ (k1 (k1 ec))) e
 ·intro q;exact kj _ (gv la (by rw[q];show s.heap.objs.size≤(s.heap.push _).objs.size;rw[s1];exact pq _))
 ·intro q;exact kj _ (gv lx (by rw[q];show s.heap.objs.size≤(s.heap.push _).objs.size;rw[s1];exact pq _))
 ·intro q;have q':s.heap.objs.size=(s.heap.push {cls:= .type "list_iterator",data:= .fields #[.ref x,.int 0 0]}).objs.size:=q
  rw[s1] at q';exact absurd q' (ir (gp _))
 ·intro q;exact kj _ (gv (gq ec) (by rw[q];show s.heap.objs.size≤(s.heap.push _).objs.size;rw[s1];exact pq _))
end
theorem Au:mroOf (.type "bytearray")=pure [.type "bytearray",.type "object"]:=by rw[mroOf_type];kernel_rfl
theorem OD:ju (.type "bytearray") "__new__"=pure (some (.builtin "bytearray.__new__")):=by rw[gk,dj];kernel_rfl
theorem Vu:Slot "bytearray" "__init__" "bytearray.__init__":=
 .of (owner:="bytearray") (n:="__init__") (by rw[gk,dj];kernel_rfl) (by decide+kernel) (by decide+kernel) (by decide+kernel)
  (by first|exact .inl (by decide+kernel)|exact .inr (by decide+kernel)) (by rw[oq];kernel_rfl)
theorem SX:TypeCalled "bytearray" "bytearray.__new__" "bytearray.__init__":=
 ⟨by decide+kernel,by decide+kernel,⟨_,_,Au⟩,madeBy_type Au OD (by decide+kernel),by decide+kernel,by rw[oq];kernel_rfl,Vu⟩
theorem OC:checkTypeCall "bytearray" ⟨[],[]⟩=pure ():=by kernel_rfl
theorem MN:jb "bytearray.__new__" ⟨[.type "bytearray"],[]⟩=pure ():=by kernel_rfl
theorem ML:ue A06 "bytearray.__new__"=some jt.«list.__new__»:=
 PySem.entryFor_alias (id':="list.__new__") (by kernel_rfl) (by first|rfl|decide+kernel|(unfold String.splitOn;simp+decide [A0Q])) (by decide+kernel) (by kernel_rfl)
theorem OB:ue A06 "bytearray.__init__"=some jt.«bytearray.__init__»:=rt (by kernel_rfl)
theorem MP(a:aa):argsOk "bytearray.__init__" ⟨[a],[]⟩:=by unfold argsOk;kernel_rfl
theorem Sj:plainId "bytearray.__new__"=true:=by decide+kernel
set_option maxRecDepth 1000000 in
theorem MM:("bytearray.__new__".splitOn ".__new__").headD ""="bytearray":=by simp+decide [String.splitOn,A0Q]
section
variable{prog:k9}{w:b3}{A:bz}{E:aa→ai→Prop}{s:ai}
theorem Jp{Q₁:aa→ai→Prop}(h:Q₁ (.ref s.heap.objs.size) {s with heap:=s.heap.push (Wc #[])}):codeAny (model prog w) A (.call (.builtin "bytearray.__new__") ⟨[.type "bytearray"],[]⟩) (wants Q₁ E) s:=by
 refine vp ?_
 show wpAny _ A.in1 (do jb "bytearray.__new__" ⟨[.type "bytearray"],[]⟩;again (.builtin "bytearray.__new__" ⟨[.type "bytearray"],[]⟩)) _ _ s
 refine ak (iz MN (bg ⟨qk Sj _,codeAny_builtin_stack ML rfl fun p st=> ?_⟩))
 rw[lg Sj _]
 have hsub:=MF
 have hown:=MM
 obtain⟨hp,g,d,tk,os⟩:=s
 simp only[hown]
 wp_walk
 exact h
theorem Aw:Builtin.Bytes.bindOptional "bytearray.__init__" "bytearray" ["source","encoding","errors"] [] []=pure [none,none,none]:=rfl
theorem iN{a:Addr}{Q:aa→ai→Prop}(hx:s.heap.get? a=some (Wc #[]))(h:∀h',gu a s.heap h'→h'.get? a=some (Wc #[])→Q .none {s with heap:=h'}):Zh (model prog w) A (call (.builtin "bytearray.__init__") [.ref a]) Q E s:=by
 have hT:s.TypeIs (.ref a) "bytearray":=⟨_,hx,rfl⟩
 refine W8 Vu hT OB (by decide+kernel) (MP _) ?_
 unfold jt.«bytearray.__init__»
 refine Zb (up (own_release hT ?_))
 refine Yi (by decide) ?_
 refine Zb (X3 Aw ?_)
 dsimp only
 refine Zb (X3 (a:=()) rfl ?_)
 refine Zb (X3 (a:=()) rfl ?_)
 refine Zb ?_
 unfold orM
 refine Zb (Rv ?_)
 refine Zb (m:=ou (.ref a)) ?_
 unfold ou
 refine Zb (up (nu hx (Zc (Zc ?_))))
 refine Yi (by decide) ?_
 refine Zb (m:=qh a _) (up (W7 hx (by decide) fun h' hs e=> ?_))
 exact Zc ⟨.none,rfl,h h' hs e⟩
theorem MO{self:aa}{T:String}{name:Str}{id:String}{args:List aa}{Q:Option aa→ai→Prop}(hT:s.TypeIs self T)(h:Slot T name id)
  (hc:Zh (model prog w) A (call (.builtin id) (self::args)) (fun v=>Q (some v)) E s):Zh (model prog w) A (callSpecial? self name args) Q E s:=by
 unfold callSpecial?
 refine Zb (up (fj hT h.lookup ?_))
 dsimp only
 rw[h.bind]
 exact Zd (Zb (Zc (Ze hc fun v s' h'=>Zc h')))
theorem N2{Q:aa→ai→Prop}(h:∀h',(∀b o,s.heap.get? b=some o→h'.get? b=some o)→h'.get? s.heap.objs.size=some (Wc #[])→Q (.ref s.heap.objs.size) {s with heap:=h'}):
  Zh (model prog w) A (call (.type "bytearray") []) Q E s:=by
 refine aj fun hn=> ?_
 obtain⟨c,tl,hmro⟩:=SX.mro
 refine hn (XD (Z3 ?_))
 rw[show A.under (.call (.type "bytearray") ⟨[],[]⟩)=A.in1 from sy (by rfl) rfl]
 show Zh _ A.in1 (A0S (.type "bytearray") ⟨[],[]⟩) _ _ _
 refine Zc ⟨tf _ (by decide+kernel),Si (by decide+kernel),Z3 ?_⟩
 rw[sy (weight_type_call_type "bytearray" [] []) rfl,GW PySem.F.entry_type_call]
 unfold jt.«type.__call__»
 refine Yi (by decide) ?_
 dsimp only
 refine Yi (fun q=>fh (SX.canCreate.symm.trans q)) ?_
 refine Zb (X3 OC ?_)
 refine Zb (X3 hmro ?_)
 refine Yi (by simp) ?_
 refine Zb (X3 SX.made ?_)
 dsimp only
 refine Zb (Zc ?_)
 have hw:∀r s',wants (fun obj s₁=>obj= .ref s.heap.objs.size∧s₁={s with heap:=s.heap.push (Wc #[])}) (fun _ _=>False) r s'→(match r with| .ok (.ret v)=>v= .ref s.heap.objs.size∧s'={s with heap:=s.heap.push (Wc #[])}| .ok _=>False| .error e=>(False:Prop)):=fun r s' hr=>by
  cases r with
  |error e=>exact hr
  |ok f=>cases f<;>exact hr
 refine Zb (Zd (up (o4 (uu (Q:=fun v s'=>v= .ref s.heap.objs.size∧s'={s with heap:=s.heap.push (Wc #[])}) (E:=fun _ _=>False) (codeAny_mono (Jp (E:=fun _ _=>False) ⟨rfl,rfl⟩) hw)) (fun v s' hv=> ?_) fun _ _ e=>e.elim)))
 obtain⟨rfl,rfl⟩:=hv
 have e0:(s.heap.push (Wc #[])).get? s.heap.objs.size=some (Wc #[]):=b9 _ rfl
 refine Zb (up (rm ⟨_,e0,rfl⟩ MF ?_))
 refine Yi (by decide) ?_
 refine Zb (Zd (MO (s:={s with heap:=s.heap.push (Wc #[])}) ⟨_,e0,rfl⟩ Vu (iN e0 fun h' hs e=> ?_)))
 refine Yi (by decide) ?_
 exact Zc (h h' (fun b o eb=>(hs.2 b (ir (gq eb))).trans (au _ eb)) e)
end
end
section
variable{prog:k9}{w:b3}{A:bz}{E:aa→ai→Prop}{s:ai}
theorem EO{l b:Addr}{xs ys:Array aa}{n m:Nat}{Q:aa→ai→Prop}(hl:s.heap.get? l=some (Zo xs n))(hb:s.heap.get? b=some (Zo ys m))(hz:xs.size+ys.size≤YU)
  (h:∀h' k,gu l s.heap h'→h'.get? l=some (Zo (xs++ys) k)→Q .none {s with heap:=h'}):wpAny (model prog w) A (call (.builtin "list.extend") [.ref l,.ref b]) Q E s:=
 have ht:Builtin.List.listTooLong (xs.size+ys.size)=false:=decide_eq_false (r8.mpr (ao hz (by decide)))
 call_meets PySem.F.slot_list_extend ⟨_,hl,rfl⟩ PySem.F.entry_list_extend (PySem.F.args_list_extend_2 _ _) (AutoSeq1.list_extend_list_list_0 l xs n b ys m (by rw[ht,u7];exact fh) (ao (br _ _) hz) (nq hz))
  ⟨hl,hb,h _ _ (m5 ..) (IsL.update (f:=fun x=>x++ys) hl)⟩
theorem uU{l:Addr}{xs:Array aa}{n:Nat}{y:aa}{Q:aa→ai→Prop}(hl:s.heap.get? l=some (Zo xs n))(hy:xs[xs.size - 1]?=some y)(hz:xs.size≤YU)
  (h:∀h' k,gu l s.heap h'→h'.get? l=some (Zo (xs.eraseIdxIfInBounds (xs.size - 1)) k)→Q y {s with heap:=h'}):wpAny (model prog w) A (call (.builtin "list.pop") [.ref l]) Q E s:=by
 refine call_meets PySem.F.slot_list_pop ⟨_,hl,rfl⟩ PySem.F.entry_list_pop (PySem.F.args_list_pop_1 _) (MeetsSeq.list_pop_last l xs n y hy hz) ⟨hl,?_⟩
 exact h _ _ (m5 ..) (IsL.update (f:=fun x=>x.eraseIdxIfInBounds (xs.size - 1)) hl)
end
theorem P9{xs:Array aa}:(xs.eraseIdxIfInBounds (xs.size - 1)).toList=xs.toList.dropLast:=by
 unfold yl
 split
 ·rw[zy,← ez,List.eraseIdx_length_sub_one]
 ·cases jy (xs:=xs) (by omega);rfl
theorem Js{b:Array UInt8}{x:Int}(h:ZR x=true):Rt (b.push x.toNat.toUInt8)=Rt b++[x]:=by
 unfold Rt
 rw[yb,bf]
 exact congrArg (_++ ·) (Py (ns:=[x]) (gj.mpr ⟨h,rfl⟩))
theorem PA{b c:Array UInt8}:Rt (b++c)=Rt b++Rt c:=by
 unfold Rt;rw[vz,bf]
section
variable{C:Cx}{c:Cf}{ν:List Addr}{env:Ev}{st:St}{s s':ai}{X:Xp}{x:Str}{j:Nat}{sv sv':S}{b:Addr}{lm cm:Str→Option aa}{e:Expr}{a:PE}{p ap cp pos:Pos}{N:Ev→St→Prop}{R:D→St→Prop}
theorem iP(ok:c.Ok)(hs:YR e=false)(h1:∀ν,ZL C c ν e a):ZJ C c (.Expr e pos) (.ex a):=fun ν env st N R X s i hq=>
 Q2 ((h1 ν _ _ _ _ _ i hq).then fun sv cv st1 s1 q1 r1 i1 g1=>P1 q1 r1 fun d q r=>by
  have ⟨n,q⟩:=Zk q
  cases d with
  |none=>exact(DR.inv r:cv=_)▸⟨ν,env,st1,q,i1⟩
  |_=>exact ff n) (by unfold interactive;rw[ok.kind];rfl) (ZB hs)
theorem Sl{h':Heap}{t:Nat}(O:Abk c ν env st s x j sv b lm cm)(ok:c.Ok)(hx:YE c x j)(hj:env[j]?=some (some sv))(ho:ZO sv=true)(y:Turn b s {s with heap:=h',toks:=t})(ho':ZO sv'=true)(r':c.SR ν h' sv' (.ref b))
  (hN:N (env.set j (some sv')) st):VQ c N R .next {s with heap:=h',toks:=t}:=⟨ν,_,st,hN,iM (s':={s with heap:=h',toks:=t}) ok O.i O.f hx.n hj ho O.v O.m y ho' r'⟩
theorem MR{l:List D}{m:Str}{id:String}{pl:Sem Bool}{Q:aa × List aa→ai→Prop}{E:aa→ai→Prop}(hs:Slot "list" m id)(ht:typeOf (.builtin id)=pure (.type "method_descriptor"))(r:c.SR ν s.heap (.own l) (.ref b))(hQ:Q (.builtin id,[.ref b]) s):Zh c.M c.A (wk (.ref b) m pl) Q E s:=
 match r with|⟨_,xs,n,e,g,_,_,_⟩=>by cases e;exact up (getMethod_builtin ⟨_,g,rfl⟩ PySem.F.plainAttrs_list hs ht (fun a e=>by cases e;exact⟨_,g,rfl⟩) hQ)
theorem mR{l:List Int}{m:Str}{id:String}{pl:Sem Bool}{Q:aa × List aa→ai→Prop}{E:aa→ai→Prop}(hs:Slot "bytearray" m id)(ht:typeOf (.builtin id)=pure (.type "method_descriptor"))(r:c.SR ν s.heap (.X4 l) (.ref b))(hQ:Q (.builtin id,[.ref b]) s):Zh c.M c.A (wk (.ref b) m pl) Q E s:=
 match r with|⟨_,xs,e,g,_,_,_⟩=>by cases e;exact up (getMethod_builtin ⟨_,g,rfl⟩ U6 hs ht (fun a e=>by cases e;exact⟨_,g,rfl⟩) hQ)
theorem Hv{n:Int}{t:Tok}{a:Addr}:A0c n t≠.ref a:=fun q=>nomatch q
theorem no_ref{a:Addr}:ny≠.ref a:=fun q=>nomatch q
theorem Az(ok:c.Ok)(hn:noStar [e]=true)(hx:Xk c.wr c.ce.scope c.nm x j=true)(hd:(x==("__debug__":Str))=false)(hc:(x==("__classdict__":Str))=false)(hp:ap.endLine=cp.line)
  (h1:∀ν,ZL C c ν e a) (he:∀env,starEach [e] env=(false,eval e env)::starEach [] env):ZJ C c (ownCall x "append" p ap cp pos [e]) (.app j a):=fun ν env st N R X s i hq=>by
 have hx':=Ys ok hx
 have hL:YD C c ν [e] (.cons a .nil):=Wd he (h1 ν) Wu
 refine YZ hq fun v hj hq=> ?_
 have ⟨ow,hq⟩:=Uy hq
 have hq2:Wa C (.cons a .nil) env st (fun vs st=>L7 vs fun u=>Aas j env u v fun env=>N env st) X:=hq
 cases v with
 |own l=>
  refine VS ok i hn (by decide:1<30) hx'.n hj rfl hd hc hp (fun b pl Q E r hQ=>MR PySem.F.slot_list_append PySem.F.type_list_append r hQ) hL hq2 fun b lm cm svs cvs st1 s1 q1 r1 O=>Xf q1 fun v e q1=> ?_
  subst e
  refine UT (P:=fun cvs=>Zh c.M c.A (PySem.call (.builtin "list.append") (.ref b::cvs)) (fun v s2=>(∀a,v≠.ref a)∧VQ c N R .next s2) (c.RX X) s1) r1 fun cv ra=> ?_
  refine WO q1 ra fun d q1 ra=> ?_
  have ⟨z,q1⟩:=Yv q1
  exact match O.r with
  |⟨_,xs,n,e,g,r,hz,m⟩=>by
   cases e
   refine up (append_at g (fun h' hs e=>⟨fun _=>no_ref,?_⟩) hz)
   have y:Turn b s1 {s1 with heap:=h'}:=Turn.of (t:=s1.toks) hs e Ym
   exact Sl (t:=s1.toks) O ok hx' hj rfl y (sv':= .own (l++[d])) rfl ⟨b,xs.push _,n+1,rfl,e,by rw[yb];exact(r.mono (y.kp m.ν)).app (.cons (ra.mono (y.kp m.ν)) .nil),by rw[vq,← r.size];exact z,m⟩ q1
 |X4 l=>
  refine VS ok i hn (by decide:1<30) hx'.n hj rfl hd hc hp (fun b pl Q E r hQ=>mR Ww VX r hQ) hL hq2 fun b lm cm svs cvs st1 s1 q1 r1 O=>Xf q1 fun v e q1=> ?_
  subst e
  refine UT (P:=fun cvs=>Zh c.M c.A (PySem.call (.builtin "bytearray.append") (.ref b::cvs)) (fun v s2=>(∀a,v≠.ref a)∧VQ c N R .next s2) (c.RX X) s1) r1 fun cv ra=> ?_
  refine Z7 (P:=fun cv=>Zh c.M c.A (PySem.call (.builtin "bytearray.append") [.ref b,cv]) (fun v s2=>(∀a,v≠.ref a)∧VQ c N R .next s2) (c.RX X) s1) q1 ra fun d t _ q1=> ?_
  have ⟨z,q1⟩:=Yv q1
  have ⟨hb,q1⟩:=Zk q1
  exact match O.r with
  |⟨_,arr,e,g,r,hz,m⟩=>by
   cases e
   have z:arr.size+1≤YU:=by rw[← r,XJ] at z;exact z
   exact N1 g hb z fun h' hs e=>⟨fun _=>no_ref,Sl (t:=s1.toks) O ok hx' hj rfl (Turn.of (t:=s1.toks) hs e TX) (sv':= .X4 (l++[d])) rfl ⟨b,_,rfl,e,by rw[Js hb,r],by rw[vq];exact z,m⟩ q1⟩
 |_=>exact ff ow
theorem Ax(ok:c.Ok)(hn:noStar [e]=true)(hx:Xk c.wr c.ce.scope c.nm x j=true)(hd:(x==("__debug__":Str))=false)(hc:(x==("__classdict__":Str))=false)(hp:ap.endLine=cp.line)
  (h1:∀ν,ZL C c ν e a) (he:∀env,starEach [e] env=(false,eval e env)::starEach [] env):ZJ C c (ownCall x "extend" p ap cp pos [e]) (.ext j a):=fun ν env st N R X s i hq=>by
 have hx':=Ys ok hx
 have hL:YD C c ν [e] (.cons a .nil):=Wd he (h1 ν) Wu
 refine YZ hq fun v hj hq=> ?_
 have ⟨ow,hq⟩:=Uy hq
 have hq2:Wa C (.cons a .nil) env st (fun vs st=>L7 vs fun u=>Aaw j env u v fun env=>N env st) X:=hq
 cases v with
 |own l=>
  refine VS ok i hn (by decide:1<30) hx'.n hj rfl hd hc hp (fun b pl Q E r hQ=>MR PySem.F.slot_list_extend PySem.F.type_list_extend r hQ) hL hq2 fun b lm cm svs cvs st1 s1 q1 r1 O=>Xf q1 fun v e q1=> ?_
  subst e
  refine UT (P:=fun cvs=>Zh c.M c.A (PySem.call (.builtin "list.extend") (.ref b::cvs)) (fun v s2=>(∀a,v≠.ref a)∧VQ c N R .next s2) (c.RX X) s1) r1 fun cv ra=> ?_
  refine XI q1 ra fun m q1 ra=> ?_
  have ⟨z,q1⟩:=Yv q1
  exact match O.r,ra.inv with
  |⟨_,xs,n,e,g,r,hz,mm⟩,⟨a2,ys,k,e2,g2,nν,r2,hz2⟩=>by
   cases e;subst e2
   have z:xs.size+ys.size≤YU:=Pk r r2 z
   refine up (EO g g2 z fun h' k hs e=>⟨fun _=>no_ref,?_⟩)
   have y:Turn b s1 {s1 with heap:=h'}:=Turn.of (t:=s1.toks) hs e Ym
   exact Sl (t:=s1.toks) O ok hx' hj rfl y (sv':= .own (l++m)) rfl ⟨b,xs++ys,k,rfl,e,by rw[vz];exact(r.app r2).mono (y.kp mm.ν),by rw[qt];exact z,mm⟩ q1
 |X4 l=>
  refine VS ok i hn (by decide:1<30) hx'.n hj rfl hd hc hp (fun b pl Q E r hQ=>mR Xq VV r hQ) hL hq2 fun b lm cm svs cvs st1 s1 q1 r1 O=>Xf q1 fun v e q1=> ?_
  subst e
  refine UT (P:=fun cvs=>Zh c.M c.A (PySem.call (.builtin "bytearray.extend") (.ref b::cvs)) (fun v s2=>(∀a,v≠.ref a)∧VQ c N R .next s2) (c.RX X) s1) r1 fun cv ra=> ?_
  refine XI q1 ra fun m q1 ra=>Zw q1 fun ns hi q1=> ?_
  have ⟨z,q1⟩:=Yv q1
  have ⟨hb,q1⟩:=Zk q1
  exact match O.r,ra.inv with
  |⟨_,arr,e,g,r,hz,mm⟩,⟨a2,ys,k,e2,g2,nν,r2,hz2⟩=>by
   cases e;subst e2
   have z:arr.size+ns.length≤YU:=by rw[b4,← r,XJ] at z;exact z
   exact P7 ok.handled g g2 (r2.ints hi) hb z fun h' t k e=>⟨fun _=>no_ref,Sl O ok hx' hj rfl ⟨fun b o eb hb=>k b o hb eb,fun _ _ _=>⟨_,e,TX⟩,rfl,rfl⟩ (sv':= .X4 (l++ns)) rfl
    ⟨b,_,rfl,e,by rw[PA,r,Py hb],by rw[qt,zc];exact z,mm⟩ q1⟩
 |_=>exact ff ow
theorem ZZ.getLast?{w:b3}{h:Heap}{l:List D}{vs:List aa}{d:D}(r:ZZ w ν h l vs)(e:l.getLast?=some d):AaQ w ν h vs (vs.length - 1) d:=by
 rw[List.getLast?_eq_getElem?,r.length] at e
 exact r.at e
theorem Ay(ok:c.Ok)(hx:Xk c.wr c.ce.scope c.nm x j=true)(hd:(x==("__debug__":Str))=false)(hc:(x==("__classdict__":Str))=false)(hp:ap.endLine=cp.line):
  ZJ C c (ownCall x "pop" p ap cp pos []) (.RU j):=fun ν env st N R X s i hq=>by
 have hx':=Ys ok hx
 refine YZ hq fun v hj hq=> ?_
 cases v with
 |own l=>
  exact VS (C:=C) (pe:= .nil) (Q:=fun vs st'=>vs=[]∧st'=st) ok i rfl (by decide) hx'.n hj rfl hd hc hp (fun b pl Q E r hQ=>MR PySem.F.slot_list_pop PySem.F.type_list_pop r hQ) Wu ⟨rfl,rfl⟩ fun b lm cm svs cvs st1 s1 q1 r1 O=>by
   refine aj fun hn=> ?_
   obtain⟨rfl,rfl⟩:=q1
   cases r1
   refine hn (Zw hq fun d hv q=>GL q fun n e hN=> ?_)
   subst e
   exact match O.r with
   |⟨_,xs,k,e,g,r,hz,m⟩=>match r.getLast? hv with
    |⟨cv,e1,e2⟩=>e2.inv.elim fun tk e3=>by
     cases e;subst e3
     refine up (uU g (by rwa [ez,fq] at e1) hz fun h' k hs e=>⟨fun _=>Hv,?_⟩)
     have y:Turn b s1 {s1 with heap:=h'}:=Turn.of (t:=s1.toks) hs e Ym
     exact Sl (t:=s1.toks) O ok hx' hj rfl y (sv':= .own l.dropLast) rfl ⟨b,_,k,rfl,e,by rw[P9];exact(r.mono (y.kp m.ν)).dropLast,by
      rw[← ez,P9,List.length_dropLast,ez];exact ao (z4 _ _) hz,m⟩ hN
 |_=>exact False.elim hq
theorem MQ{fp:Pos}(ok:c.Ok)(hx:Xk c.wr c.ce.scope c.nm x j=true)(hk:c.ce.kindOf "bytearray"=some .globalImplicit):
  ZJ C c (.Assign [.Name x p] (.Call (.Name "bytearray" fp) [] [] cp) pos) (.RO j):=fun ν env st N R X s i hq=>
 ZD (Z8 (up<|WT (b:=11) ok i hk (by decide) (by decide) (YL (es:=[]) rfl (Z6 (N2 fun h' k e=>up
  (Xo (sv:= .X4 []) ok (i.grow (t:=s.toks) (Zs _) e TX k) ⟨_,#[],rfl,e,rfl,by decide,i.fresh (Zs _)⟩ (Ys ok hx) (MH (Zk hq).1) fun s2 y=>⟨_,_,st,(Zk hq).2,y.i⟩)))))) (ZB rfl)
end
end
section
open PyProof.Rows PySem PySem.Builtin PySem.Builtin.ObjectAttr PySem.Calls PySem.SeqAt PySem.W
noncomputable def storeOk(K:Frag)(C:Addr)(name:Str):Bool:=findIn K (.ref C) "__setattr__"==some (some (.builtin "object.__setattr__"))&&(plainOver K C&&(takerIn K C name==some none&&(clsIn K C).any (·.hasDict)))
noncomputable def A0:List (Addr × List Nat):=[(MA,[0,1,2]),(TY,[0]),(239,[3,4,5,6,7]),(267,[3,8,5,0]),(211,[9,10,11,12])]
theorem Ju(P:b7):A0.all (fun p=>p.2.all fun n=>storeOk (KF P) p.1 (Yp n))=true:=by kernel_rfl
theorem ZT.isStr{w:b3}{ns:List Str}{vs:List aa}{es:List dw}(h:ZT w ns vs es):es.any (·.refKey)=false:=by
 induction h with
 |nil=>rfl
 |cons t r ih=>exact ih
section
variable{w:b3}{A:bz}{E:aa→ai→Prop}{s:ai}{K:Frag}
theorem in_dict{D:Addr}{es:List dw}{n:Nat}{name:Str}{v:aa}{tk:Tok}{Q:Fin→ai→Prop}{ns:List Str}{vs:List aa}(h2:s.heap.get? D=some (ZA es n))(he:ZT w ns vs es)(hz:(putL name (af w.params name) (.str name s.toks) v es).length≤1000)
  (h:∀h',gu D s.heap h'→h'.get? D=some (ZA (putL name (af w.params name) (.str name s.toks) v es) (putN name es n))→Q (.done (.ret .none)) {s with heap:=h',toks:=s.toks+1}):wpAny (model pw w) A (storeInDict D (.str name tk) name v) Q E s:=by
 refine ak (bg (ak ?_))
 unfold nsSet
 refine ak (ak (wpAny_askSetting (bg (ak (wpAny_mkText (ak (A07 (s:={s with toks:=s.toks+1}) h2 ?_)))))))
 dsimp only
 rw[show aRefKeyMayBeTheName name es.toArray=false by rw[aRefKeyMayBeTheName_at,← yw,← yw,w4,he.isStr,u7]]
 have this:Obj.putName name (af w.params name) (.str name s.toks) v (ZA es n)=ZA (putL name (af w.params name) (.str name s.toks) v es) (putN name es n):=putName_dict ..
 have e1:(s.heap.update D (Obj.putName name (af w.params name) (.str name s.toks) v)).get? D=some (ZA (putL name (af w.params name) (.str name s.toks) v es) (putN name es n)):=
  (jg _ h2 (by rw[this];rfl)).trans (by rw[this])
 exact wpAny_updatePart (s:={s with toks:=s.toks+1}) h2 (ak (wpAny_lookBehind (s:={s with heap:=_,toks:=s.toks+1}) e1 (pastItsLine_dict (by rw[je,xy];exact ao hz (by decide))) (bg (h _ (m5 ..) e1))))
theorem N4{x C D:Addr}{da:Data}{sl:Array (Option aa)}{cd:ClassData}{es:List dw}{n:Nat}{name:Str}{v:aa}{tk:Tok}{b:Bool}{Q:Fin→ai→Prop}{ns:List Str}{vs:List aa}(X:K.In s.heap)(hc:clsIn K C=some cd)(hd:cd.hasDict=true)(h1:s.heap.get? x=some ⟨.ref C,some D,da,sl⟩)
  (h2:s.heap.get? D=some (ZA es n)) (he:ZT w ns vs es) (hz:(putL name (af w.params name) (.str name s.toks) v es).length≤1000)
  (h:∀h',gu D s.heap h'→h'.get? D=some (ZA (putL name (af w.params name) (.str name s.toks) v es) (putN name es n))→Q (.done (.ret .none)) {s with heap:=h',toks:=s.toks+1}):wpAny (model pw w) A (storeInOwnDict (.ref x) (.ref C) (.str name tk) name v b) Q E s:=by
 unfold storeInOwnDict
 refine ak (bg (ak (ak (A07 h1 (ak (Looks.here (looks_clsIn X hc) ?_))))))
 rw[hd]
 exact bg (a:=some D) (in_dict (tk:=tk) h2 he hz h)
theorem Jt{x C D:Addr}{es:List dw}{n:Nat}{name:Str}{v:aa}{Q:Unit→ai→Prop}{ns:List Str}{vs:List aa}(X:K.In s.heap)(h1:s.heap.get? x=some (Yy C D))(h2:s.heap.get? D=some (ZA es n))(hs:storeOk K C name=true)
  (he:ZT w ns vs es) (hz:(putL name (af w.params name) (.str name (s.toks+1)) v es).length≤1000)
  (h:∀h',gu D s.heap h'→h'.get? D=some (ZA (putL name (af w.params name) (.str name (s.toks+1)) v es) (putN name es n))→Q () {s with heap:=h',toks:=s.toks+2}):
  wpAny (model pw w) A (setAttr (.ref x) name v) Q E s:=by
 have k:=both hs
 have k2:=both k.2
 have k3:=both k2.2
 have I:InstAt s.heap x (Yy C D) C (some (ZA es n)):=⟨h1,rfl,rfl,h2⟩
 refine set_plain X I (beq_iff_eq.mp k.1) (osa_open (s:={s with toks:=s.toks+1}) X I k2.1 (beq_iff_eq.mp k3.1) fun b=> ?_)
 refine aj fun hn=> ?_
 obtain⟨cd,hc,hd⟩:=Zg k3.2
 exact hn (N4 (s:={s with toks:=s.toks+1}) X hc hd h1 h2 he hz h)
end
structure Abl(w:b3)(ns:List Str)(vs:List aa)(es es':List dw)(n:Nat):Prop where
 r:ZT w ns vs es'
 l:es'.length=es.length+n
theorem A1{w:b3}{name n:Str}{t:Tok}{u k v:aa}{es:List dw}(e:(n==name)=true):putL name (af w.params name) k v (⟨af w.params n,.str n t,u⟩::es)=⟨af w.params n,.str n t,v⟩::es:=by
 unfold putL;rw[if_pos (show(Value.str n t).isStr name=true from e)]
theorem N5{w:b3}{name n:Str}{t:Tok}{u k v:aa}{es:List dw}(e:(n==name)=false):putL name (af w.params name) k v (⟨af w.params n,.str n t,u⟩::es)=⟨af w.params n,.str n t,u⟩::putL name (af w.params name) k v es:=by
 rw[putL,if_neg (show ¬(Value.str n t).isStr name=true from fun q=>nomatch e.symm.trans q)]
theorem ZT.set{w:b3}{name:Str}{k v:aa}{ns:List Str}{vs:List aa}{es:List dw}{j:Nat}(h:ZT w ns vs es)(hj:ns.findIdx? (· ==name)=some j):Abl w ns (vs.set j v) es (putL name (af w.params name) k v es) 0:=by
 induction h generalizing j with
 |nil=>exact no hj
 |@cons n ns u vs es t r ih=>
  rw[xe] at hj
  cases e:n==name with
  |true=>rw[e] at hj;cases hj;rw[A1 e];exact⟨.cons t r,rfl⟩
  |false=>
   rw[e] at hj
   obtain⟨i,hi,q⟩:=bk.mp hj
   cases q
   rw[N5 e]
   exact⟨.cons t (ih hi).r,congrArg (· +1) (ih hi).l⟩
theorem ZT.push{w:b3}{name:Str}{v:aa}{t0:Tok}{ns:List Str}{vs:List aa}{es:List dw}(h:ZT w ns vs es)(hn:∀n∈ns,(n==name)=false):Abl w (ns++[name]) (vs++[v]) es (putL name (af w.params name) (.str name t0) v es) 1:=by
 induction h with
 |nil=>exact⟨.cons t0 .nil,rfl⟩
 |cons t r ih=>
  have h:=nr.mp hn
  rw[N5 h.1]
  exact⟨.cons t (ih h.2).r,congrArg (· +1) (ih h.2).l⟩
theorem ZT.len{w:b3}{ns:List Str}{vs:List aa}{es:List dw}(h:ZT w ns vs es):es.length=ns.length:=by
 induction h with
 |nil=>rfl
 |cons t r ih=>exact congrArg (· +1) ih
end
section
open PyProof.Rows PySem PySem.Calls PySem.SeqAt PySem.W
section
variable{w:b3}{ν:List Addr}{ρ:Ad}{st:St}{h h':Heap}{b:Addr}{o:Obj}
theorem VY{x y:String}{o o':Obj}(e:o.cls= .type x)(e':o'.cls= .type y)(n:x≠y):o≠o':=fun q=>n (A2i (e.symm.trans ((congrArg Obj.cls q).trans e')))
theorem Sm{x:Addr}{y:String}{o o':Obj}(e:o.cls= .ref x)(e':o'.cls= .type y):o≠o':=fun q=>nomatch e.symm.trans ((congrArg Obj.cls q).trans e')
structure Dy(b:Addr)(o:Obj)(h h':Heap):Prop where
 e:h.get? b=some o
 y:gu b h h'
theorem Dy.k(y:Dy b o h h'){a:Addr}{o':Obj}(e:h.get? a=some o')(n:o'≠o):h'.get? a=some o':=(y.y.2 a fun q=>n (bh (e.symm.trans (q▸y.e)))).trans e
theorem Dy.n(y:Dy b o h h'){a:Addr}{o':Obj}(e:h.get? a=some o')(n:a≠b):h'.get? a=some o':=(y.y.2 a n).trans e
theorem IP.to{l:List Int}(x:IP ρ h l)(k:∀a vs n,ρ.digits=some a→h.get? a=some (Zo vs n)→h'.get? a=some (Zo vs n)):IP ρ h' l:=match x with|⟨a,vs,n,e,g,r⟩=>⟨a,vs,n,e,k _ _ _ e g,r⟩
theorem IQ.to{i:Int}(x:IQ ρ h i)(k:∀a vs n,ρ.one=some a→h.get? a=some (Zo vs n)→h'.get? a=some (Zo vs n)):IQ ρ h' i:=match x with|⟨a,t,n,e,g⟩=>⟨a,t,n,e,k _ _ _ e g⟩
theorem U4.to{l:List Int}(x:U4 w ν ρ h l)(ki:∀a C d,h.get? a=some (Yy C d)→h'.get? a=some (Yy C d))(kd:∀a es n,a∉ν→h.get? a=some (ZA es n)→h'.get? a=some (ZA es n))(kb:∀a arr,h.get? a=some (Wc arr)→h'.get? a=some (Wc arr)):U4 w ν ρ h' l:=
 match x with|⟨b,d,arr,es,n,e,g1,n1,g2,n2,r,g3,q⟩=>⟨b,d,arr,es,n,e,ki _ _ _ g1,n1,kd _ _ _ n2 g2,n2,r,kb _ _ g3,q⟩
theorem O8.to{l:List Int}{a e:Int}(x:O8 w ν ρ h l a e)(ki:∀a C d,h.get? a=some (Yy C d)→h'.get? a=some (Yy C d))(kd:∀a es n,h.get? a=some (ZA es n)→h'.get? a=some (ZA es n)):O8 w ν ρ h' l a e:=
 match x with|⟨d,arr,t,ta,te,es,n,e1,g1,n1,g2,r,q,z⟩=>⟨d,arr,t,ta,te,es,n,e1,ki _ _ _ g1,n1,kd _ _ _ g2,r,q,z⟩
theorem Abm{α:Type}{o:Option α}(h:o.isSome=true):∃a,o=some a:=fk.mp h
theorem V1.Jv{arr arr':Array UInt8}(x:V1 w ν ρ st h)(e:ρ.V2=some b)(y:Dy b (Wc arr) h h')(eb':h'.get? b=some (Wc arr'))(hs:st.sink.isSome=true):V1 w ν ρ {st with sink:=some (Rt arr')} h':=by
 have li:∀{vs n},Zo vs n≠Wc arr:=VY rfl rfl (by decide)
 have di:∀{es n},ZA es n≠Wc arr:=VY rfl rfl (by decide)
 obtain⟨l0,hl0⟩:=Abm hs
 refine⟨fun l el=>(x.digits l el).to fun a vs n _ g=>y.k g li,fun i ei=>(x.one i ei).to fun a vs n _ g=>y.k g li,fun l el=> ?_,fun l a e' q=>(x.cur l a e' q).to (fun a C d g=>y.k g (Sm rfl rfl)) fun a es n g=>y.k g di,x.apart⟩
 cases x.sink l0 hl0 with
 |mk b' d arr0 es n h1 h2 h3 h4 h5 h6 h7 h8=>
  cases e.symm.trans h1
  cases el
  exact⟨b,d,arr',es,n,e,y.k h2 (Sm rfl rfl),h3,y.k h4 di,h5,h6,eb',rfl⟩
theorem V1.iT{i:Int}{t:Tok}{xs:Array aa}{n n':Nat}(x:V1 w ν ρ st h)(e:ρ.one=some b)(y:Dy b (Zo xs n) h h')(eb':h'.get? b=some (Zo #[.int i t] n')):V1 w ν ρ {st with one:=some i} h':=
 have ki:∀a C d,h.get? a=some (Yy C d)→h'.get? a=some (Yy C d):=fun a C d g=>y.k g (Sm rfl rfl)
 have kd:∀a es m,h.get? a=some (ZA es m)→h'.get? a=some (ZA es m):=fun a es m g=>y.k g (VY rfl rfl (by decide))
 ⟨fun l el=>(x.digits l el).to fun a vs m h1 g=>y.n g (x.apart a b h1 e),fun j ej=>by cases ej;exact⟨b,t,n',e,eb'⟩,
  fun l el=>(x.sink l el).to ki (fun a es m _ g=>kd a es m g) fun a arr g=>y.k g (VY rfl rfl (by decide)),fun l a e' q=>(x.cur l a e' q).to ki kd,x.apart⟩
theorem V1.iS{es es':List dw}{n n':Nat}{l:List Int}{a a' e0:Int}{ta:Tok}{arr:Array UInt8}{t te:Tok}(x:V1 w ν ρ st h)(hν:b∈ν)(e:ρ.O7=some b)(hc:st.cur=some (l,a,e0))(y:Dy b (ZA es n) h h')(eb':h'.get? b=some (ZA es' n'))
  (he:ZT w ["octets","at","end"] [.bytes arr t,.int a' ta,.int e0 te] es') (hl:Rt arr=l):V1 w ν ρ {st with cur:=some (l,a',e0)} h':=by
 have ki:∀a C d,h.get? a=some (Yy C d)→h'.get? a=some (Yy C d):=fun a C d g=>y.k g (Sm rfl rfl)
 have kl:∀a vs m,h.get? a=some (Zo vs m)→h'.get? a=some (Zo vs m):=fun a vs m g=>y.k g (VY rfl rfl (by decide))
 refine⟨fun l el=>(x.digits l el).to fun a vs n _ g=>kl a vs n g,fun i ei=>(x.one i ei).to fun a vs n _ g=>kl a vs n g,
  fun l el=>(x.sink l el).to ki (fun a es m nn g=>y.n g fun q=>nn (q▸hν)) fun a arr g=>y.k g (VY rfl rfl (by decide)),fun l1 a1 e1 q=> ?_,x.apart⟩
 cases x.cur _ _ _ hc with
 |mk d arr0 t0 ta0 te0 es0 m h1 h2 h3 h4 h5 h6 h7=>
  cases q
  cases e.symm.trans h1
  refine⟨b,arr,t,ta,te,es',n',e,ki _ _ _ h2,h3,eb',he,hl,?_⟩
  rw[← XJ,hl,← h6,XJ];exact h7
end
section
variable{C:Cx}{c:Cf}{ν:List Addr}{env:Ev}{st:St}{s s':ai}{X:Xp}{x m:Str}{p ap ap1 ap2 cp sp pos:Pos}{e:Expr}{a:PE}{j k:Nat}{sv:S}
theorem Cf.Go.YW{a:Addr}{t:Nat}{o o':Obj}{h':Heap}(ha:a∈YW c.ρ)(y:Dy a o s.heap h')(e:h'.get? a=some o')(n:NF o')(hB:c.B.get? a=none):c.Go s {s with heap:=h',toks:=t}:=
 ⟨⟨fun b ob eb _ hv _=>y.n eb fun q=>hv (q▸ha),fun b ob eb _ hv=>⟨ob.slots,y.n eb fun q=>hv (q▸ha)⟩,fun b ob eb nb=>if q:b=a then⟨o',q▸e,n⟩ else⟨ob,y.n eb q,nb⟩,fun k b ob eb=>y.n (k b ob eb) fun q=>Zj hB eb q.symm⟩,rfl,rfl,fun b ob eb hv _=>y.n eb fun q=>hv (q▸ha)⟩
noncomputable def PB(x m:Str)(p ap1 ap2 cp pos:Pos)(e:Expr):Stmt:= .Expr (.Call (.Attribute (.Attribute (.Name x p) "octets" ap1) m ap2) [e] [] cp) pos
theorem Rw(P:b7):attrOk (KF P) TY (Yp 0)=true:=(both (both (Pp P)).2).2
theorem MS{R:aa→ai→Prop}{E:aa→ai→Prop}(ok:c.Ok)(i:c.I ν env st s)(hx:c.nm.lookup x=some j)(hj:env[j]?=some (some sv))(hd:(x==("__debug__":Str))=false)(hc:(x==("__classdict__":Str))=false)(k:∀cv,c.SR ν s.heap sv cv→R cv s):
  Zh c.M c.A (eval (.Name x p) c.ce) R E s:=match i.VE with|⟨lm,cm,f⟩=>match f.val x j sv hx hj with|⟨cv,v1,v2⟩=>Q4 (up (Qo ok hc f v1 (k cv v2))) hd
theorem N6{id:String}{Q:S→St→Prop}{l0:List Int}{R:Flow→ai→Prop}(ok:c.Ok)(i:c.I ν env st s)(hn:noStar [e]=true)
  (hx:c.nm.lookup x=some j) (hj:env[j]?=some (some (.tag .sink))) (hs:st.sink=some l0) (hd:(x==("__debug__":Str))=false) (hc:(x==("__classdict__":Str))=false) (hp:ap2.endLine=cp.line)
  (slot:Slot "bytearray" m id) (hty:typeOf (.builtin id)=pure (.type "method_descriptor"))
  (h:ZL C c ν e a) (he:∀env,starEach [e] env=(false,eval e env)::starEach [] env) (hq:Xu C a env st Q X)
  (k:∀b sv cv st1 s1,c.ρ.V2=some b→Q sv st1→c.SR ν s1.heap sv cv→c.I ν env st1 s1→Zh c.M c.A (PySem.call (.builtin id) [.ref b,cv]) (fun v s2=>v= .none∧R .next s2) (c.RX X) s1):
  Zh c.M c.A (exec (PB x m p ap1 ap2 cp pos e) c.ce) R (c.RX X) s:=by
 refine Q2 (Zi (Q:=fun v s2=>v= .none∧R .next s2) ?_ (fun v s2 hv=>by obtain⟨rfl,h⟩:=hv;exact h) fun _ _ e=>e) (by unfold interactive;rw[ok.kind];rfl) rfl
 cases i.str.sink _ hs with
 |mk b D arr es n h1 h2 h3 h4 h5 h6 h7 h8=>
 have hL:YD C c ν [e] (.cons a .nil):=Wd he h Wu
 have hq2:Wa C (.cons a .nil) env st (fun vs st=>L7 vs fun v=>Q v st) X:=hq
 have i0:c.I ν env st {s with toks:=s.toks+1}:=i.ks (KS.tok s _)
 refine GP rfl hn (by decide:1<30) hp ?_
 rw[sx,show uz (.Name x p) "octets" c.ce (eval (.Name x p) c.ce)=eval (.Name x p) c.ce from rfl]
 refine Zb (MS ok i hx hj hd hc fun cv r=> ?_)
 refine r.2.symm▸Zp (Zb (Zd (WR (v:= .ref b) i (Rw _) h2 h4 h6 rfl rfl (Zb (up (wpAny_letTemporaryGo (Zc fun pl=> ?_)))))))
 refine up (getMethod_builtin (T:="bytearray") ⟨_,h7,rfl⟩ U6 slot hty (fun a e=>by cases e;exact⟨_,h7,rfl⟩) ?_)
 refine Y5 (plain_any hn) (Yu (plain_any hn) ((hL _ _ _ _ _ _ i0 hq2).then fun svs cvs st1 s1 q1 r1 i1 g1=>Xf q1 fun v e q1=> ?_))
 subst e
 exact UT (P:=fun cvs=>Zh c.M c.A (PySem.call (.builtin id) (.ref b::cvs)) _ _ s1) r1 fun cv ra=>k b v cv st1 s1 h1 q1 ra i1
theorem Jw{K P:Prop}{v:S}(h:DZ v K)(k:v= .tag .sink→K→P):P:=Sd h fun t e h=>by cases t with|sink=>exact k e h|_=>exact False.elim h
theorem iQ{K P:Prop}{v:S}(h:Aax v K)(k:v= .tag .cur→K→P):P:=Sd h fun t e h=>by cases t with|cur=>exact k e h|_=>exact False.elim h
theorem iR{K P:Prop}{v:S}(h:Aat v K)(k:v= .tag .one→K→P):P:=Sd h fun t e h=>by cases t with|one=>exact k e h|_=>exact False.elim h
theorem MU(ok:c.Ok)(hn:noStar [e]=true)(hx:c.nm.lookup x=some j)(hd:(x==("__debug__":Str))=false)(hc:(x==("__classdict__":Str))=false)(hp:ap2.endLine=cp.line)
  (h1:∀ν,ZL C c ν e a) (he:∀env,starEach [e] env=(false,eval e env)::starEach [] env):ZJ C c (PB x "append" p ap1 ap2 cp pos e) (.W3 j a):=fun ν env st N R X s i hq=>
 YZ hq fun v hj hq=>Jw hq fun ev hq=>Zw hq fun l0 hs hq=>N6 ok i hn hx (ev▸hj) hs hd hc hp Ww VX (h1 ν) he hq fun b sv cv st1 s1 hb q1 r1 i1=>
  Zw q1 fun l el q1=>Z7 (P:=fun cv=>Zh c.M c.A (PySem.call (.builtin "bytearray.append") [.ref b,cv]) _ _ s1) q1 r1 fun n t _ q1=>match i1.str.sink _ el with
   |⟨b',D,arr,es,n,k1,k2,k3,k4,k5,k6,k7,k8⟩=>by
    cases hb.symm.trans k1
    have ⟨hz,q1⟩:=Yv q1
    have ⟨hby,hN⟩:=Zk q1
    refine N1 k7 hby (by rw[← k8,XJ] at hz;exact hz) fun h' hs' e'=>⟨rfl,?_⟩
    have y:Dy b (Wc arr) s1.heap h':=⟨k7,hs'⟩
    have sr:=i1.str.Jv hb y e' (el▸rfl)
    rw[Js hby,k8] at sr
    exact⟨ν,env,_,hN,i1.go (.YW (t:=s1.toks) (WM hb) y e' TX (i1.νB _ (i1.volν _ (WM hb)))) sr⟩
theorem MT(ok:c.Ok)(hn:noStar [e]=true)(hx:c.nm.lookup x=some j)(hd:(x==("__debug__":Str))=false)(hc:(x==("__classdict__":Str))=false)(hp:ap2.endLine=cp.line)
  (h1:∀ν,ZL C c ν e a) (he:∀env,starEach [e] env=(false,eval e env)::starEach [] env):ZJ C c (PB x "extend" p ap1 ap2 cp pos e) (.Tq j a):=fun ν env st N R X s i hq=>
 YZ hq fun v hj hq=>Jw hq fun ev hq=>Zw hq fun l0 hs hq=>N6 ok i hn hx (ev▸hj) hs hd hc hp Xq VV (h1 ν) he hq fun b sv cv st1 s1 hb q1 r1 i1=>
  Zw q1 fun l el q1=>WO q1 r1 fun d q1 r1=>gN q1 fun m ed q1=>by
   subst ed
   exact match r1.inv,i1.str.sink _ el with
   |⟨am,t,ecv,em,zm⟩,⟨b',D,arr,es,n,k1,k2,k3,k4,k5,k6,k7,k8⟩=>by
    cases hb.symm.trans k1;subst ecv
    have ⟨hz,hN⟩:=Yv q1
    refine RI k7 (by rw[← k8,← em,b4,XJ,XJ] at hz;exact hz) fun h' hs' e'=>⟨rfl,?_⟩
    have y:Dy b (Wc arr) s1.heap h':=⟨k7,hs'⟩
    have sr:=i1.str.Jv hb y e' (el▸rfl)
    rw[PA,k8,em] at sr
    exact⟨ν,env,_,hN,i1.go (.YW (t:=s1.toks) (WM hb) y e' TX (i1.νB _ (i1.volν _ (WM hb)))) sr⟩
end
section
variable{M:o8}{A:bz}{E:aa→ai→Prop}{s:ai}{env:Env}
theorem GX{vs keep:List aa}{Q:Unit→ai→Prop}(h:Q () s):Zh M A (release vs keep) Q E s:=fun Γ p hΓ hc=>by rw[A00];exact h
theorem Rx{t value:Expr}{pos:Pos}{Q:Flow→ai→Prop}(h:Zh M A (eval value env) (fun v s₁=>Zh M A (assign t env v) (fun _=>Q .next) E s₁) E s)(hs:YR value=false)
  (hw:ux [t] value env=pure none) (ha:(A0C [t] env).map (·.2)=[assign t env]):Zh M A (exec (.Assign [t] value pos) env) Q E s:=by
 rw[exec_Assign]
 refine Zp ?_
 rw[show yf [t] value pos.line env=pure false from ZB hs]
 refine Zb (Zc ?_)
 rw[if_neg (by decide)]
 refine Ze h fun v s₁ h₁=> ?_
 rw[hw,ha]
 exact Zb (Zc (Ze (m:=assign t env v) h₁ fun _ s₂ h₂=>Zc h₂))
theorem MV{o:Expr}{attr:Str}{pos:Pos}{v:aa}{Q:Unit→ai→Prop}(h:Zh M A (eval o env) (fun ov s₁=>Zh M A (setAttr ov attr v) Q E s₁) E s):Zh M A (assign (.Attribute o attr pos) env v) Q E s:=
 Ze (m:=holding [v] (eval o env)) (Zd h) fun ov s₁ h₁=>Zp (Ze (Zd h₁) fun _ s₂ h₂=>GX h₂)
theorem Jy{o i:Expr}{pos:Pos}{v:aa}{Q:Unit→ai→Prop}(h:Zh M A (eval o env) (fun ov s₁=>Zh M A (eval i env) (fun iv s₂=>Zh M A (setItem ov iv v) Q E s₂) E s₁) E s):Zh M A (assign (.Subscript o i pos) env v) Q E s:=
 Ze (m:=holding [v] (eval o env)) (Zd h) fun ov s₁ h₁=>Ze (m:=holding [v,ov] (eval i env)) (Zd h₁) fun iv s₂ h₂=>Zp (Ze (Zd h₂) fun _ s₃ h₃=>GX h₃)
end
section
variable{C:Cx}{c:Cf}{ν:List Addr}{env:Ev}{st:St}{s s':ai}{X:Xp}{x:Str}{p ap cp sp pos:Pos}{e:Expr}{a:PE}{j k:Nat}
theorem Hw(ok:c.Ok)(hce:YR e=false)(hx:c.nm.lookup x=some j)(hd:(x==("__debug__":Str))=false)(hc:(x==("__classdict__":Str))=false)
  (h1:∀ν,ZL C c ν e a):ZJ C c (.Assign [.Attribute (.Name x p) "at" ap] e pos) (.ON j a):=fun ν env st N R X s i hq=>
 YZ hq fun v hj hq=>iQ hq fun ev hq=>Rx ((h1 ν _ _ _ _ _ i hq).then fun sv cv st1 s1 q1 r1 i1 g1=>Zw q1 fun cc hcur q1=>
  Z7 (P:=fun cv=>Zh c.M c.A (assign (.Attribute (.Name x p) "at" ap) c.ce cv) (fun _=>VQ c N R .next) (c.RX X) s1) q1 r1 fun v tv _ q1=>MV (MS (sv:= .tag .cur) ok i1 hx (ev▸hj) hd hc fun ov r=>match i1.str.cur _ _ _ hcur with
   |⟨D,arr,t,ta,te,es,n,k1,k2,k3,k4,k5,k6,k7⟩=>by
    have w:=k5.set (name:="at") (k:= .str "at" (s1.toks+1)) (v:= .int v tv) (j:=1) rfl
    have hv:=i1.volν _ (Ql k1)
    refine r.2.symm▸up (Jt i1.K k2 k4 (az.mp (az.mp (Ju c.w.params) _ (.head _)) 1 (.tail _ (.head _))) k5 (by rw[w.l,k5.len];exact(by decide:3≤1000)) fun h' hs' e'=> ?_)
    have y:Dy D (ZA es n) s1.heap h':=⟨k4,hs'⟩
    exact⟨ν,env,_,q1,i1.go (.YW (t:=s1.toks+2) (Ql k1) y e' Vp (i1.νB _ hv)) (i1.str.iS hv k1 hcur y e' w.r k6)⟩)) hce rfl rfl
theorem Jx(ok:c.Ok)(hce:YR e=false)(hx:c.nm.lookup x=some j)(hd:(x==("__debug__":Str))=false)(hc:(x==("__classdict__":Str))=false)
  (h1:∀ν,ZL C c ν e a):ZJ C c (.Assign [.Subscript (.Name x p) (.Constant (.int 0) k cp) sp] e pos) (.NR j a):=fun ν env st N R X s i hq=>
 YZ hq fun v hj hq=>iR hq fun ev hq=>Rx ((h1 ν _ _ _ _ _ i hq).then fun sv cv st1 s1 q1 r1 i1 g1=>Zw q1 fun v0 hone q1=>
  Z7 (P:=fun cv=>Zh c.M c.A (assign (.Subscript (.Name x p) (.Constant (.int 0) k cp) sp) c.ce cv) (fun _=>VQ c N R .next) (c.RX X) s1) q1 r1 fun v tv _ q1=>Jy (MS (sv:= .tag .one) ok i1 hx (ev▸hj) hd hc fun ov r=>up<|wpAny_Constant_int (match r,i1.str.one _ hone with
   |⟨b,hb,eo⟩,⟨b',t,n,k1,k2⟩=>by
    cases hb.symm.trans k1;subst eo
    have hv:=i1.volν _ (Qm hb)
    have y:Dy b (Zo #[.int v0 t] n) s1.heap (s1.heap.update b (o6 (·.setIfInBounds (0:Int).toNat (.int v tv)))):=⟨k2,m5 ..⟩
    have e':(s1.heap.update b (o6 (·.setIfInBounds (0:Int).toNat (.int v tv)))).get? b=some (Zo #[.int v tv] n):=jg _ k2 rfl
    exact up (ki_setAt (s:={s1 with toks:=s1.toks+1}) k2 (by decide) (by decide) (by decide:(0:Int)<1) ⟨ν,env,_,q1,i1.go (.YW (t:=s1.toks+1) (Qm hb) y e' Ym (i1.νB _ hv)) (i1.str.iT hb y e')⟩)))) hce rfl rfl
end
section
variable{C:Cx}{c:Cf}{ν ν':List Addr}{env:Ev}{st st':St}{s s':ai}{X:Xp}{I:Addr}
structure GY(I:Addr)(s s':ai):Prop where
 keep:∀b o,s.heap.get? b=some o→b≠I→s'.heap.get? b=some o
 was:∀o,s.heap.get? I=some o→¬NF o
 os:s'.os=s.os
 gens:s'.gens=s.gens
theorem Cf.I.U8(i:c.I ν env st s)(y:GY I s s')(hB:c.B.get? I=none)(h0:c.h0.get? I=none)(hk:∀p∈c.kp,p.1≠I):c.I ν env st s':=
 have nf:∀b o,s.heap.get? b=some o→NF o→s'.heap.get? b=some o:=fun b o e n=>y.keep b o e fun q=>y.was o (q▸e) n
 i.ht ⟨fun b o e n _ _=>nf b o e n,fun b o e n _=>⟨o.slots,nf b o e n⟩,fun b o e n=>⟨o,nf b o e n,n⟩,fun k b o e=>y.keep b o (k b o e) fun q=>Zj hB e q.symm⟩ y.os y.gens (i.str.kv fun b o e n _=>nf b o e n)
  (fun p hp=>⟨y.keep _ _ (i.X6 p hp).e (hk p hp),(i.X6 p hp).n⟩) fun b o e v f=>y.keep b o (i.al b o e v f) fun q=>Zj h0 e q.symm
noncomputable abbrev Cf.cc(c:Cf)(ex:List (D × aa))(kp:List (Addr × Obj)):Cf:={c with ex:=ex,kp:=kp}
variable{ex ex':List (D × aa)}{kp kp':List (Addr × Obj)}{h h':Heap}
theorem Cf.Ok.cc(ok:c.Ok):(c.cc ex kp).Ok:=⟨ok.frames,ok.handled,ok.head,ok.frame,ok.Qn,ok.Sb,ok.slots,ok.kind,ok.globals,ok.builtins,ok.depth,ok.units⟩
theorem WK.cc{a:Addr}(x:WK (c.cc ex kp) ν a):WK (c.cc ex' kp') ν a:=⟨x.ν,x.f,x.h0,x.v,x.F⟩
theorem SR.cc{sv:S}{v:aa}(x:(c.cc ex kp).SR ν h sv v):(c.cc ex' kp').SR ν h sv v:=by
 cases sv with
 |d d=>exact x
 |tag t=>exact x
 |own l=>cases x with|mk a xs n e g r z m=>exact⟨a,xs,n,e,g,r,z,m.cc⟩
 |X4 l=>cases x with|mk a arr e g r z m=>exact⟨a,arr,e,g,r,z,m.cc⟩
theorem Cf.Ht.cc(x:(c.cc ex kp).Ht h h'):(c.cc ex' kp').Ht h h':=⟨x.keep,x.VE,x.live,x.stays⟩
theorem Nn.cc{lm cm:Str→Option aa}(f:Nn (c.cc ex kp) ν env h lm cm):Nn (c.cc ex' kp') ν env h lm cm:=
 ⟨f.ns,fun n a e=>have q:=f.cell n a e;⟨q.is,q.v,q.F,q.f,q.h0⟩,f.SQ,f.lν,f.l0,fun x i sv e1 e2=>match f.val x i sv e1 e2 with|⟨cv,e,r⟩=>⟨cv,e,SR.cc r⟩,f.KW⟩
theorem Cf.RX.cc{ev:aa}(y:(c.cc ex kp).RX X ev s):(c.cc ex' kp').RX X ev s:=by
 cases y with|mk e k YY at_ st' od d fl a1 a2 a3 a4 a5 a6 a7 a8 a9 a10 a11 a12=>exact⟨e,k,YY,at_,st',od,d,fl,a1,a2,a3,a4,a5,a6,a7,a8,a9.cc,a10,a11,a12⟩
theorem Cf.I.cc(i:(c.cc ex kp).I ν env st s)(h1:∀p∈ex',DR c.w ν s.heap p.1 p.2)(h2:∀p∈kp',mG ν s.heap p):(c.cc ex' kp').I ν env st s:=
 ⟨i.base,i.lim,i.seer,i.stays,i.νB,i.frames,i.str,match i.VE with|⟨lm,cm,f⟩=>⟨lm,cm,f.cc⟩,i.fν,i.SP,i.JR,i.JS,i.live,i.gens,h1,h2,i.sin.cc,i.os,i.al⟩
noncomputable def U7(w:Bool)(sc:eg)(nm:List (Str × Nat))(t:Expr)(is:List Nat):Bool:=match is with
 |[i]=>(nameOf t).any fun x=>Xk w sc nm x i
 |is=>nj 2 is.length&&match t with
  | .Tuple ts _ _=>EM w sc nm ts is
  |_=>false
theorem Vv{t:Expr}{is:List Nat}{d:D}{cv:aa}{env':Ev}{E:aa→ai→Prop}{R:Unit→ai→Prop}(ok:c.Ok)(i:c.I ν env st s)(ht:U7 c.wr c.ce.scope c.nm t is=true)(hb:bindTo env is d=some env')(r:DR c.w ν s.heap d cv)
  (hR:∀s',c.I ν env' st s'→Mv c s s'→R () s'):wpAny c.M c.A (assign t c.ce cv) R E s:=by
 match is with
 |[]=>exact ff ht
 |[j]=>
  refine aj fun hn=> ?_
  obtain⟨x,e,q⟩:=Zg ht
  obtain⟨p,e⟩:=ZC e
  subst e
  exact hn (ya (Uj ok i r (Ys ok q) fun s2 y=>hR s2 (Hl hb▸y.i) y.mv))
 |j::k::is=>
  cases Vt rfl hb with
  |mk l el hl eq=>
  subst el
  cases t with
  |Tuple ts n p=>exact Nz ok i ht r hl fun s2 i2 m=>hR s2 (eq▸i2) m
  |_=>exact ff ht
end
noncomputable def UX:List String:=["enumerate","zip","dict_itemiterator","dict_reverseitemiterator","odict_iterator","itertools.zip_longest","itertools.pairwise"]
inductive A4(w:b3)(Ws:List (D × aa))(items:List D)(i:Nat)(v:aa):Prop
 |mk (d:D) (e:items[i]?=some d) (m:(d,v)∈Ws∨∀ν h,DR w ν h d v)
inductive OE(h:Heap)(I:Addr):Prop
 |mk (vs:Array aa) (n:String) (dc:Option Addr) (sl:Array (Option aa)) (e:h.get? I=some ⟨.type n,dc,.fields vs,sl⟩) (o:UX.contains n=false)
structure Src(c:Cf)(ν:List Addr)(s s':ai)(I:Addr)(items:List D)(fp:List Addr)(P:Nat→aa→Prop)(St:Nat→Heap→Prop)(Ws:List (D × aa))(kp:List (Addr × Obj)):Prop where
 ks:KS s s'
 fresh:s.heap.get? I=none
 walks:∀A',A'.handled=none→Walks pw c.w A' I fp [I] items.length P St
 st:St 0 s'.heap
 item:∀i v,i<items.length→P i v→A4 c.w Ws items i v
 uY:∀p∈Ws,DR c.w ν s.heap p.1 p.2
 uW:∀p∈kp,mG ν s.heap p
 fpH:∀b∈fp,b=I∨b∈kp.map (·.1)
 JU:∀i h,St i h→OE h I
def Iter(c:Cf)(ν:List Addr)(s:ai)(cv:aa)(items:List D):Prop:=∀A E (R:aa→ai→Prop),(∀I fp P St Ws kp s',Src c ν s s' I items fp P St Ws kp→R (.ref I) s')→wpAny c.M A (pyIter cv) R E s
inductive uV(c:Cf)(ν:List Addr)(env:Ev)(Q:List D→St→Prop)(s₀:ai)(cv:aa)(s:ai):Prop
 |mk (items:List D) (st:St) (q:Q items st) (i:c.I ν env st s) (g:c.Go s₀ s) (k:Iter c ν s cv items)
def MW(C:Cx)(c:Cf)(ν:List Addr)(it:Expr)(p:PE):Prop:=∀env st (Q:List D→St→Prop) X s,c.I ν env st s→xS C p env st Q X→Zh c.M c.A (eval it c.ce) (uV c ν env Q s) (c.RX X) s
section
variable{C:Cx}{c:Cf}{ν:List Addr}{env:Ev}{st:St}{s s' s1:ai}{X:Xp}{I:Addr}
theorem A6{h:Heap}{es:List Expr}{k:Nat}{p:Pos}{v:aa}{M:o8}{A:bz}{E:aa→ai→Prop}{Q:Unit→ai→Prop}(x:OE s.heap I)(hq:Q () s):wpAny M A (vj (.Tuple es k p) (.ref I) v) Q E s:=by
 cases x with|mk vs n dc sl e o=>
 cases v with
 |ref a=>exact ak (nu e (by
   show wpAny M A (if (UX.contains n&&_)=true then _ else pure ()) Q E s
   exact if_neg (fun q=>nomatch o.symm.trans (both q).1)▸bg hq))
 |_=>exact bg hq
theorem OE.go{v:aa}{target:Expr}{M:o8}{A:bz}{E:aa→ai→Prop}{Q:Unit→ai→Prop}(x:OE s.heap I)(hq:Q () s):wpAny M A (vj target (.ref I) v) Q E s:=by
 cases target with
 |Tuple es k p=>exact A6 (h:=s.heap) x hq
 |List es p=>exact A6 (h:=s.heap) (es:=[]) (k:=0) (p:=p) x hq
 |_=>exact bg hq
theorem ZZ.zip{w:b3}{h:Heap}{l:List D}{vs:List aa}(r:ZZ w ν h l vs):∀p∈l.zip vs,DR w ν h p.1 p.2:=by
 induction l generalizing vs with
 |nil=>exact fun p hp=>nomatch hp
 |cons d l ih=>cases r with|cons a r=>exact fun p hp=>(ay.mp hp).elim (fun q=>q▸a) (ih r p)
theorem ZZ.item{w:b3}{h:Heap}{l:List D}{vs:List aa}{i:Nat}{v:aa}(r:ZZ w ν h l vs)(e:vs[i]?=some v):A4 w (l.zip vs) l i v:=by
 induction l generalizing vs i with
 |nil=>cases r;exact no e
 |cons d l ih=>cases r with
  |cons a r=>cases i with
   |zero=>cases e;exact⟨d,rfl,.inl (.head _)⟩
   |succ i=>exact match ih r e with|⟨d',e',m⟩=>⟨d',e',m.imp (.tail _) id⟩
theorem GZ{a:Addr}{ob oI:Obj}{l:List D}{xs:Array aa}{St:Nat→Heap→Prop}(g1:s.heap.get? a=some ob)(g2:a∉ν)(g3:ZZ c.w ν s.heap l xs.toList)
  (w:∀A',A'.handled=none→Walks pw c.w A' s.heap.objs.size [s.heap.objs.size,a] [s.heap.objs.size] xs.size (fun i v=>xs[i]?=some v) St) (st:St 0 (s.heap.push oI)) (f:∀i h,St i h→OE h s.heap.objs.size):
  Src c ν s {s with heap:=s.heap.push oI} s.heap.objs.size l [s.heap.objs.size,a] (fun i v=>xs[i]?=some v) St (l.zip xs.toList) [(a,ob)]:=
 ⟨KS.VN s _,Zs _,fun A' h=>g3.size▸w A' h,st,fun i v _ e=>g3.item (fq▸e),g3.zip,fun p hp=>(iy.mp hp)▸⟨g1,g2⟩,
  fun b hb=>(ay.mp hb).imp id fun h=>by cases iy.mp h;exact .head _,f⟩
theorem Sn{oI:Obj}{l:List D}{P:Nat→aa→Prop}{St:Nat→Heap→Prop}(w:∀A',A'.handled=none→Walks pw c.w A' s.heap.objs.size [s.heap.objs.size] [s.heap.objs.size] l.length P St)(st:St 0 (s.heap.push oI))
  (k:∀i v,i<l.length→P i v→∃d,l[i]?=some d∧∀ν h,DR c.w ν h d v) (f:∀i h,St i h→OE h s.heap.objs.size):Src c ν s {s with heap:=s.heap.push oI} s.heap.objs.size l [s.heap.objs.size] P St [] []:=
 ⟨KS.VN s _,Zs _,w,st,fun i v z e=>(k i v z e).elim fun d q=>⟨d,q.1,.inr q.2⟩,fun _ h=>(nomatch h),fun _ h=>(nomatch h),fun b hb=> .inl (iy.mp hb),f⟩
theorem PC{h:Heap}{n:String}{vs:Array aa}(x:∃o,h.get? I=some o∧o.cls= .type n∧o.data= .fields vs)(o:UX.contains n=false):OE h I:=
 x.elim fun⟨cl,dc,da,sl⟩ q=>by cases q.2.1;cases q.2.2;exact⟨vs,n,dc,sl,q.1,o⟩
theorem Jz{x:Str}{i:Nat}{v:aa}{w:b3}(h:SignAt x i v):∃d,(Q7 x)[i]?=some d∧∀ν h,DR w ν h d v:=
 match h with|⟨cp,u,hc,e⟩=>⟨.str ⟨#[cp]⟩,(f9 ..).trans (congrArg _ (fq.trans hc)),fun ν h=>e▸ .str _ _⟩
theorem uX{b:Array UInt8}{i:Nat}{v:aa}{w:b3}(h:∃c u,b[i]?=some c∧v= .int (c.toNat:Int) u):∃d,((Rt b).map D.int)[i]?=some d∧∀ν h,DR w ν h d v:=
 match h with|⟨cp,u,hc,e⟩=>⟨.int cp.toNat,(f9 ..).trans (congrArg _ ((f9 ..).trans (congrArg _ (fq.trans hc)))),fun ν h=>e▸ .int _ _⟩
theorem A5{a:S}{cv:aa}{Q:List D→Prop}{P:Prop}(r:c.SR ν s.heap a cv)(h:DY a Q)(k:∀l,Q l→Iter c ν s cv l→P):P:=WO h r fun d h r=>by
 have i:=r.inv
 cases d with
 |list l=>exact match i with
  |⟨a,xs,n,e,g1,g2,g3,g4⟩=>k _ h fun A E R k=>e▸y9 ⟨_,g1,rfl,n,rfl⟩ (k _ _ _ _ _ _ _ (GZ g1 g2 g3 (St:=fun i h=>h.IsListIter s.heap.objs.size a i∧h.IsList a xs) (fun A' hA=>Walks.list hA _ a (ir (gq g1)) xs)
    ⟨⟨_,b9 _ rfl,rfl,rfl⟩,Heap.IsList.push ⟨_,g1,rfl,n,rfl⟩ _⟩ fun i h q=>PC q.1 rfl))
 |tup l=>exact match i with
  |⟨a,xs,n,e,g1,g2,g3,g4⟩=>k _ h fun A E R k=>e▸wpAny_pyIter_tuple ⟨_,g1,rfl,n,rfl⟩ (k _ _ _ _ _ _ _ (GZ g1 g2 g3 (St:=fun i h=>h.IsTupleIter s.heap.objs.size a i∧h.IsTuple a xs) (fun A' hA=>Walks.tuple hA _ a (ir (gq g1)) xs)
    ⟨⟨_,b9 _ rfl,rfl,rfl⟩,Heap.IsTuple.push ⟨_,g1,rfl,n,rfl⟩ _⟩ fun i h q=>PC q.1 rfl))
 |bytes l=>exact match i with
  |⟨b,t,e,q,z⟩=>k _ h fun A E R k=>e▸KBw.pyIter_bytes (k _ _ _ _ _ _ _ (Sn (P:=fun i v=>∃c u,b[i]?=some c∧v= .int (c.toNat:Int) u) (St:=fun i h=>KBw.IsBytesIter h s.heap.objs.size b t i)
    (fun A' hA=>by
     rw[← q,aq,aq,ez]
     exact KBw.walks hA _ b t) ⟨_,b9 _ rfl,rfl,rfl⟩ (fun i v _ e=>q▸uX e) fun i h q=>PC q rfl))
 |str x=>
  have hl:(Q7 x).length=x.cps.size:=(aq ..).trans ez
  exact i.elim fun t e=>k _ h fun A E R k=>e▸(match ha:x.cps.all (· <128) with
   |false=>wpAny_pyIter_wide ha (k _ _ _ _ _ _ _ (Sn (P:=SignAt x) (St:=fun i h=>h.IsStrIter s.heap.objs.size "str_iterator" x t i) (fun A' hA=>hl▸Walks.strWide hA _ x t) ⟨_,b9 _ rfl,rfl,rfl⟩ (fun i v _ e=>Jz e) fun i h q=>PC q rfl))
   |true=>wpAny_pyIter_ascii ha (k _ _ _ _ _ _ _ (Sn (P:=SignAt x) (St:=fun i h=>h.IsStrIter s.heap.objs.size "str_ascii_iterator" x t i) (fun A' hA=>hl▸Walks.strAscii hA _ x t) ⟨_,b9 _ rfl,rfl,rfl⟩ (fun i v _ e=>Jz e) fun i h q=>PC q rfl)))
 |_=>exact False.elim h
theorem A7{e:Expr}{a r:PE}(h1:ZL C c ν e a):MW C c ν e (.cons a r):=fun env st Q X s i hq=>
 (h1 _ _ _ _ _ i hq).then fun sv cv st1 s1 q1 r1 i1 g1=>A5 r1 q1 fun l q k=>⟨l,st1,q,i1,g1,k⟩
theorem N7{k:Nat}:(YO k).length=k:=(aq ..).trans gr
theorem size_range{k:Nat}:Builtin.Range.rangeSize 0 (k:Int) 1=k:=(rangeSize_one 0 _).trans (match k with
 |0=>rfl
 |k+1=>(if_pos (qd.2 (qb k))).trans (Int.sub_zero _))
theorem A3{k i:Nat}{v:aa}{w:b3}(z:i<(YO k).length)(h:∃t,v= .int (0+(i:Int)*1) t):∃d,(YO k)[i]?=some d∧∀ν h,DR w ν h d v:=
 ⟨.int i,(f9 ..).trans (congrArg _ (vt (Nat.lt_of_lt_of_eq z N7))),fun ν h'=>h.elim fun t e=>e▸((Int.mul_one _).symm.trans (Int.zero_add _).symm:(i:Int)=0+(i:Int)*1)▸ .int _ _⟩
theorem Hy{k:Nat}{a:Addr}{t u v:Tok}(hr:IsRange s.heap a 0 k 1 t u v)(z:k≤YU):Iter c ν s (.ref a) (YO k):=fun A E R y=>
 wpAny_pyIter_range hr (small_one (by decide) (by decide) (ja (by decide) (iu k)) (mj (kh.2 z) (by decide))) (y _ _ _ _ _ _ _ (Sn (P:=fun i v=>∃t,v= .int (0+(i:Int)*1) t) (St:=fun i h=>IsRangeIter h s.heap.objs.size (0+(i:Nat)*1) ((k:Int) - (i:Nat)) 1)
  (fun A' hA=>by rw[N7];exact Walks.range hA _ 0 1 _) (size_range (k:=k).symm▸(b9 _ rfl:IsRangeIter (s.heap.push ⟨.type "range_iterator",none,.fields #[rawInt 0,rawInt k,rawInt 1],#[]⟩) s.heap.objs.size 0 k 1)) (fun i v z e=>A3 z e) fun i h q=>⟨_,_,_,_,q,rfl⟩))
theorem Hx{p pos:Pos}{es:List Expr}{a:PE}(ok:c.Ok)(hn:noStar es=true)(hk:c.ce.kindOf "range"=some .globalImplicit)(h1:YD C c ν es a):MW C c ν (.Call (.Name "range" p) es [] pos) (.blt 1 a):=fun env st Q X s i hq=>
 Z8 (up<|WT (b:=1) ok i hk (by decide) (by decide) (YL hn ((h1 _ _ _ _ _ _ i hq).then fun svs cvs st1 s1 q1 r1 i1 g1=>Xf (Uy q1).2 fun a e q=>by
  subst e
  refine UT (P:=fun cvs=>Zh c.M c.A (PySem.call (Jd 1) cvs) (uV c ν env Q s) (c.RX X) s1) r1 fun v ra=> ?_
  exact Z7 (P:=fun v=>Zh c.M c.A (PySem.call (Jd 1) [v]) (uV c ν env Q s) (c.RX X) s1) q ra fun n t _ q=>by
   cases n with
   |negSucc n=>exact False.elim q
   |ofNat k=>
    have ⟨z,q⟩:=Yv q
    have k0:=KS.push s1 {cls:= .type "range",data:= .fields #[.int 0 s1.toks,.int k t,.int 1 (s1.toks+1)]} (s1.toks+1+1)
    exact up (call_range_1 ⟨_,st1,q,i1.ks k0,g1.trans k0.go,Hy (IsRange.new s1.heap 0 k 1 s1.toks t (s1.toks+1)) z⟩))))
end
noncomputable def OF:Expr→Bool
 | .ListComp ..=>false
 | .SetComp ..=>false
 | .DictComp ..=>false
 | .Set ..=>false
 |_=>true
theorem Vw{e:Expr}{env:Env}{x:aa}(h:OF e=true):xu e env x=pure x:=by
 cases e<;>first|rfl|exact nomatch h
theorem A9{α:Type}{o:Option α}{K:α→Prop}{P:Prop}(h:bnd o K)(k:∀a,o=some a→K a→P):P:=by cases o with|none=>exact h.elim|some a=>exact k a rfl h
inductive Fa{α:Type}(items:List α)(k:Nat):List α→Prop
 |nil (e:k=items.length):Fa items k []
 |cons {d:α} {r:List α} (z:k<items.length) (e:items[k]?=some d) (n:items.drop (k+1)=r):Fa items k (d::r)
theorem PD{α:Type}{items:List α}{k:Nat}(h:k≤items.length):Fa items k (items.drop k):=by
 induction items generalizing k with
 |nil=>cases Nat.le_zero.mp h;exact .nil rfl
 |cons d l ih=>cases k with
  |zero=>exact .cons (qb _) rfl rfl
  |succ k=>
   have q:=ih (iw h)
   show Fa (d::l) (k+1) (l.drop k)
   generalize l.drop k=r at q
   cases q with
   |nil e=>exact .nil (congrArg (· +1) e)
   |cons z e n=>exact .cons (Nat.succ_lt_succ z) e n
section
variable{C:Cx}{c:Cf}{ν:List Addr}{env:Ev}{st:St}{s s':ai}{X:Xp}{I:Addr}{h':Heap}{t:Nat}
theorem OE.turn(x:OE s.heap I)(k:∀b o,b∉[I]→s.heap.get? b=some o→h'.get? b=some o):GY I s {s with heap:=h',toks:=t}:=
 ⟨fun b o e hb=>k b o (fun q=>hb (iy.mp q)) e,fun o e n=>(match x with|⟨vs,_,_,_,e',_⟩=>n vs (congrArg Obj.data (bh (e.symm.trans e')))),rfl,rfl⟩
inductive Aen(C:Cx)(c c1:Cf)(I:Addr)(items:List D)(St':Nat→Heap→Prop)(is:List Nat)(pb:PS)(N:Ev→St→Prop)(R:D→St→Prop)(X:Xp)(n:Nat)(s:ai):Prop
 |mk (k:Nat) (ν:List Addr) (env:Ev) (st:St) (e:n=items.length - k) (z:k≤items.length) (h:St' k s.heap) (m:I∉ν) (i:c1.I ν env st s) (q:XV (fun env st k=>wpS C pb env st k R X) is (items.drop k) env st N)
theorem A8{target iter:Expr}{b:List Stmt}{pos:Pos}{is:List Nat}{it:PE}{pb:PS}(ok:c.Ok)(hc:OF iter=true)(ht:U7 c.wr c.ce.scope c.nm target is=true)(h1:∀ν,MW C c ν iter it)(h2:∀ex kp,Wv C (c.cc ex kp) b pb):
  ZJ C c (.For target iter b [] pos) (.VC is it pb):=fun ν env st N R X s i hq=>by
 refine HY (Zi (h1 ν _ _ _ _ _ i hq) (fun cv s1 x=> ?_) fun _ _ e=>e) fun x=>Vw hc
 cases x with|mk items st1 q1 i1 g1 kit=>
 refine up (kit _ _ _ fun I fp P St Ws kp s2 src=> ?_)
 have i2:=i1.ks src.ks
 have m0:=i1.fresh src.fresh
 have BI:c.B.get? I=none:=by
  cases e:c.B.get? I with
  |none=>rfl
  |some o=>exact absurd rfl (Zj src.fresh (i1.stays I o e))
 have kI:∀p∈kp++c.kp,p.1≠I:=fun p hp q=>(jk.mp hp).elim (fun hp=>Zj src.fresh (src.uW p hp).e q.symm) fun hp=>Zj src.fresh (i1.X6 p hp).e q.symm
 have j2:(c.cc (Ws++c.ex) (kp++c.kp)).I ν env st1 s2:=Cf.I.cc (ex:=c.ex) (kp:=c.kp) i2 (fun p hp=>(jk.mp hp).elim (fun hp=>(src.uY p hp).keeps src.ks.keeps) (i2.Ws p)) fun p hp=>(jk.mp hp).elim (fun hp=>⟨src.ks.keeps _ _ (src.uW p hp).e,(src.uW p hp).n⟩) (i2.X6 p)
 have W:=src.walks c.A ok.handled
 have up':∀{α:Type} {t:Sem α} {Q:α→ai→Prop} {s:ai} {ex:List (D × aa)} {kp:List (Addr × Obj)},Zh c.M c.A t Q ((c.cc ex kp).RX X) s→Zh c.M c.A t Q (Xd c.M c.A c.ce (Qz c.M c.A c.ce (c.RX X))) s:=
  fun h=>Zi h (fun _ _ q=>q) fun ev s' x=>Cf.RX.own ok i.fr x.cc
 refine Uw (Aen C c (c.cc (Ws++c.ex) (kp++c.kp)) I items St is pb N R X) (fun n s3 hI=> ?_) items.length ⟨0,ν,env,st1,rfl,ie _,src.st,fun q=>i1.ZE src.fresh q rfl,j2,q1⟩
 cases hI with|mk k ν3 env3 st3 e z hst m i3 hgo=>
 subst e
 have dr:=PD z
 generalize hr:items.drop k=rest at hgo dr
 cases dr with
 |nil e=>
  subst e
  exact up (W.done _ _ _ hst fun h' tk hkeep=>ZY ⟨ν3,env3,st3,hgo,Cf.I.cc (i3.U8 ((src.JU _ _ hst).turn hkeep) BI m0.h0 kI) (fun p hp=>(i3.U8 ((src.JU _ _ hst).turn (t:=tk) hkeep) BI m0.h0 kI).Ws p (e7 _ hp)) fun p hp=>(i3.U8 ((src.JU _ _ hst).turn (t:=tk) hkeep) BI m0.h0 kI).X6 p (e7 _ hp)⟩)
 |@cons d _ lt d1 hn=>
  refine up (W.item k _ _ _ lt hst fun v h' tk hP hst' hkeep=> ?_)
  have i4:=i3.U8 ((src.JU _ _ hst).turn (t:=tk) hkeep) BI m0.h0 kI
  cases src.item k v lt hP with|mk d' d1' d2=>
  cases bh (d1.symm.trans d1')
  have rd:DR c.w ν3 h' d v:=d2.elim (fun d2=>i4.Ws (d,v) (jo _ d2)) fun d2=>d2 _ _
  have fl:=src.JU _ _ hst'
  refine up (fl.go (s:={s3 with heap:=h',toks:=tk}) (A9 hgo fun env4 hb hgo=> ?_))
  cases fl with|mk vs n dc sl eI _=>
  have i5:(c.cc (Ws++c.ex) ((I,_)::(kp++c.kp))).I ν3 env3 st3 {s3 with heap:=h',toks:=tk}:=Cf.I.cc i4 i4.Ws fun p hp=>(ay.mp hp).elim (fun q=>q▸⟨eI,m⟩) (i4.X6 p)
  refine up (Vv (c:=c.cc (Ws++c.ex) ((I,_)::(kp++c.kp))) ok.cc i5 ht hb rd fun s6 i6 _=>up' (Zi (h2 (Ws++c.ex) ((I,_)::(kp++c.kp)) ν3 env4 st3 _ _ _ s6 i6 hgo) (fun f s7 hp=> ?_) fun _ _ e=>e))
  cases f with
  |next=>
   cases hp with|mk ν7 env7 st7 q7 i7=>
   refine⟨items.length - (k+1),sd lt (gp k),k+1,ν7,env7,st7,rfl,lt,W.frame _ _ _ hst' fun b hb o eb=> ?_,(i7.X6 (I,_) (.head _)).n,Cf.I.cc i7 i7.Ws (fun p hp=>i7.X6 p (.tail _ hp)),hn▸q7⟩
   have go:∀p,p∈((I,_)::(kp++c.kp):List (Addr × Obj))→h'.get? p.1=some o→s7.heap.get? p.1=some o:=fun p hp e=>bh (e.symm.trans (i5.X6 p hp).e)▸(i7.X6 p hp).e
   exact(src.fpH b hb).elim (fun q=>q▸go _ (.head _) (q▸eb)) fun q=>(ku.mp q).elim fun p hp=>hp.2▸go p (.tail _ (jo _ hp.1)) (hp.2▸eb)
  |ret v=>cases hp with|mk d st7 env7 q7 r7 i7=>exact⟨d,st7,env7,q7,r7,Cf.I.cc (ex':=c.ex) (kp':=c.kp) i7 (fun p hp=>i7.Ws p (e7 _ hp)) fun p hp=>i7.X6 p (.tail _ (e7 _ hp))⟩
  |_=>exact False.elim hp
end
section
open Sem (wp)
section
variable{M:o8}{A:bz}{E:aa→ai→Prop}{s:ai}{env:Env}
theorem J0{α:Type}{c:Prop}[Decidable c]{pos:Pos}{k:PUnit→Sem α}{Q:α→ai→Prop}(h:Zh M A (k ()) Q E s):
  Zh M A (if c then(standAt pos>>=k) else k ()) Q E s:=by
 split
 ·exact Zp h
 ·exact h
def WU(M:o8)(A:bz)(E:aa→ai→Prop)(use:Option (aa→Sem Unit))(Q:aa→ai→Prop)(acc:aa)(C:Addr)(r:ly)(s':ai):Prop:=
 match r,use with
 | .ok _,none=>∃m,s'.heap.Ns C m∧∀h' m',h'.Ns C m'→gu C s'.heap h'→Q acc {s' with heap:=h'}
 | .ok _,some u=>Zh M A (u acc) (fun _ s''=>∃m,s''.heap.Ns C m∧∀h' m',h'.Ns C m'→gu C s''.heap h'→Q .none {s'' with heap:=h'}) E s'
 | .error x,_=>False
theorem So{e:Expr}{scope:eg}{pos:Pos}{newAcc first:Sem aa}{g:m9}{gs:List m9}{cl:List (Str × Addr)}{use:Option (aa→Sem Unit)}
  {Q:aa→ai→Prop}
  (hcl:clausesOf e=g::gs) (hs:∀x,xu g.iter env x=pure x) (hclos:closureFor scope env=pure cl)
  (hkind:scope.kind= .function) (hnames:∀x∈scope.names,x.2= .local→scope.names.lookup x.1=some .local) (hq:∀it acc cenv,Xc (.compStart e 0 it acc cenv)=true)
  (h:Zh M A first (fun x s₁=>Zh M A (pyIter x) (fun it s₂=>Zh M A newAcc (fun acc s₃=>
   Zh M A (newFunctionEnv scope env.globals cl [] env.qual none .none (some env)) (fun cenv s₄=>
    ZU M A (.compStart e 0 it acc {cenv with scope:=relabel scope env}) (WU M A E use Q acc cenv.locals) s₄) E s₃) E s₂) E s₁) E s):
  Zh M A (comprehension e scope env pos newAcc false first use) Q E s:=by
 unfold comprehension
 rw[hclos,hcl]
 refine Ze h fun x s₁ h₁=>Zp ?_
 refine Zb (X3 (hs x) ?_)
 refine Ze (Zd h₁) fun it s₂ h₂=>J0 ?_
 refine Ze h₂ fun acc s₃ h₃=>Zb (Zc ?_)
 refine Ze h₃ fun cenv s₄ h₄=> ?_
 dsimp only
 have hv:∀x∈(scope.names.filter fun x=>(x.2== .local||x.2== .cell)&&x.1 !=(".0":Str)).reverse,x.2= .local→
   Env.kindOf {cenv with scope:=relabel scope env} x.1=some .local:=fun x hx hl=>lookup_relabel_local (hnames x (List.mem_filter.mp (List.mem_reverse.mp hx)).1 hl)
 have hv':∀x∈(scope.names.filter fun x=>(x.2== .local||x.2== .cell)&&x.1 !=(".0":Str)).reverse.drop 1++(scope.names.filter fun x=>(x.2== .local||x.2== .cell)&&x.1 !=(".0":Str)).reverse.take 1,
   x.2= .local→Env.kindOf {cenv with scope:=relabel scope env} x.1=some .local:=fun x hx hl=>by
  rcases jk.mp hx with h1|h1
  ·exact hv x (List.mem_of_mem_drop h1) hl
  ·exact hv x (List.mem_of_mem_take h1) hl
 refine Zd (Zb (Rn (Zd (HX (hq _ _ _) (Q5 h₄ fun r s' hr=> ?_) fun x=>nomatch x))))
 cases r with
 |ok f=>
  cases use with
  |none=>
   obtain⟨m,hn,hr⟩:=hr
   exact Zb (Zd (up (wpAny_comp_letGo (cenv:={cenv with scope:=relabel scope env}) hkind _ s' m hv hn fun h' m' hn' hs'=>Zc (hr h' m' hn' hs'))))
  |some u=>
   refine VF ?_
   refine Ze (Zd hr) fun _ s'' hr'=> ?_
   obtain⟨m,hn,hr'⟩:=hr'
   exact Zb (up (wpAny_comp_letGo (cenv:={cenv with scope:=relabel scope env}) hkind _ s'' m hv' hn fun h' m' hn' hs'=>Zc (hr' h' m' hn' hs')))
 |error x=>cases use<;>exact(hr:False).elim
end
section
variable{prog:k9}{w:b3}{A:bz}{E:aa→ai→Prop}{R:ly→ai→Prop}{s:ai}
theorem J1{α:Type}{M:o8}{env:Env}{m:Sem α}{pos:Pos}{Q:α→ai→Prop}{E:aa→ai→Prop}{s:ai}(h:Zh M A m Q (fun _ _=>False) s):
  Zh M A (m.onRaise fun x=>do n7 x env;standAt pos) Q E s:=
 Xg (Zi h (fun _ _ q=>q) fun _ _ hx=>hx.elim)
theorem Hz{α:Type}{M:o8}{env:Env}{m:Sem α}{Q:α→ai→Prop}{E:aa→ai→Prop}{s:ai}(h:Zh M A m Q (fun _ _=>False) s):
  Zh M A (m.onRaise fun x=>do n7 x env;vg x) Q E s:=
 Xg (Zi h (fun _ _ q=>q) fun _ _ hx=>hx.elim)
theorem PG{β:Type}{M:o8}{f:jw→Sem β}{Q:β→ai→Prop}(h:∀x,Zh M A (f x) Q E s):Zh M A (ask>>=f) Q E s:=Zb (up (wpAny_askSetting (h _)))
theorem VZ {elt target iter ifs rest scope pos it acc env}
  (h0:ZU (model prog w) A (.compLoop (.ListComp elt (⟨target,iter,ifs,0⟩::rest) scope pos) 0 it acc env) R s)
  (h:Zh (model prog w) A (pyIter it) (fun it' s'=>ZU (model prog w) A (.compLoop (.ListComp elt (⟨target,iter,ifs,0⟩::rest) scope pos) 0 it' acc env) R s')
   (fun _ _=>False) s):
  ZU (model prog w) A (.compStart (.ListComp elt (⟨target,iter,ifs,0⟩::rest) scope pos) 0 it acc env) R s:=by
 refine Z3 ?_
 show Zh _ _ ((compStart (.ListComp elt (⟨target,iter,ifs,0⟩::rest) scope pos) 0 it acc env).onRaise (fun x=>do n7 x env;standAt theWindowsPlace)) _ _ s
 refine J1 ?_
 unfold compStart
 show Zh _ _ (ask>>=_) _ _ s
 refine PG fun x=> ?_
 split
 ·first
   |exact Zb (Zc (Zc ⟨rfl,rfl,h0⟩))
   |exact Zc ⟨rfl,rfl,h0⟩
 ·first
   |exact VF (Zp (Ze h fun it' s' h'=>Zc ⟨rfl,rfl,h'⟩))
   |(refine VF ?_;show Zh _ _ (standAt iter.pos>>=_) _ _ s;exact Zp (Ze h fun it' s' h'=>Zc ⟨rfl,rfl,h'⟩))
theorem PF{elt target iter:Expr}{ifs:List Expr}{scope:eg}{pos:Pos}{it acc:aa}{env:Env}(I:Nat→ai→Prop)
  (turn:∀n s,I n s→Zh (model prog w) A (pyNext it) (fun r s₁=>match r with
   |none=>R (.ok .next) s₁
   |some v=>Zh (model prog w) A (vj target it v) (fun _ s₀=>Zh (model prog w) A (assign target env v) (fun _ s₂=>
     Zh (model prog w) A (forIn ifs true fun c r=>if r=true then do let ok ← isTrue c env (eval c env);pure (lz ok) else pure (lz r)) (fun ok s₃=>
      if ok=true then Zh (model prog w) A (eval elt env) (fun x s₄=>
       Zh (model prog w) A (call (.builtin "list.append") [acc,x]) (fun _ s₅=>∃m,m<n∧I m s₅) (fun _ _=>False) s₄) (fun _ _=>False) s₃
      else ∃m,m<n∧I m s₃) (fun _ _=>False) s₂) (fun _ _=>False) s₀) (fun _ _=>False) s₁) (fun _ _=>False) s)
  (n:Nat) (h:I n s):
  ZU (model prog w) A (.compLoop (.ListComp elt [⟨target,iter,ifs,0⟩] scope pos) 0 it acc env) R s:=by
 refine Vd rfl rfl I (fun n s hI=> ?_) n h
 show Zh _ A ((compTurn (.ListComp elt [⟨target,iter,ifs,0⟩] scope pos) 0 it acc env).onRaise (fun x=>do n7 x env;vg x)) _ _ s
 refine Hz ?_
 rw[compTurn_list]
 refine Zp (Ze (turn n s hI) fun r s₁ h₁=> ?_)
 cases r with
 |none=>exact Zc h₁
 |some v=>
  refine Ze h₁ fun _ s₀ h₀=>Ze h₀ fun _ s₂ h₂=>Ze h₂ fun ok s₃ h₃=> ?_
  cases ok with
  |false=>exact Zc (.inl ⟨rfl,h₃⟩)
  |true=>
   exact Zb (Ze (m:=eval elt env) h₃ fun x s₄ h₄=>Ze (m:=call (.builtin "list.append") [acc,x]) h₄ fun _ s₅ h₅=>Zc (Zc (.inl ⟨rfl,h₅⟩)))
theorem OG{env:Env}{c:Expr}{Q:Bool→ai→Prop}(h:Zh (model prog w) A (isTrue c env (eval c env)) Q E s):
  Zh (model prog w) A (forIn [c] true fun c r=>if r=true then do let ok ← isTrue c env (eval c env);pure (lz ok) else pure (lz r)) Q E s:=by
 simp only[List.forIn_cons,List.forIn_nil,if_true]
 exact Zb (Zb (Zi h (fun b s' hb=>Zc (Zc hb)) fun _ _ x=>x))
noncomputable def Xr(cells:List (Str × Addr)):List (Str × mq)→List (Str × Addr)→List (Str × Addr)
 |[],cs=>cs
 |(n,k)::r,cs=>Xr cells r (if k== .free then(n,(cells.lookup n).getD 0)::cs else cs)
theorem OH{scope:eg}{env:Env}(h:∀x∈scope.names,x.2= .free→(env.cells.lookup x.1).isSome=true):closureFor scope env=pure (Xr env.cells scope.names []):=by
 unfold closureFor
 have key:∀(l:List (Str × mq)) (cs:List (Str × Addr)),(∀x∈l,x.2= .free→(env.cells.lookup x.1).isSome=true)→
   (forIn l cs fun x r=>if (x.2==NameKind.free)=true then cellOf env x.1>>=fun a=>pure (lz ((x.1,a)::r)) else pure (lz r))=(pure (Xr env.cells l cs):Sem (List (Str × Addr))):=by
  intro l
  induction l with
  |nil=>intro cs _;rfl
  |cons x r ih=>
   intro cs hx
   obtain⟨n,k⟩:=x
   rw[List.forIn_cons]
   cases hk:(k==NameKind.free) with
   |false=>
    simp only[hk,sf,if_false,Xr]
    exact ih cs fun y hy=>hx y (nh _ hy)
   |true=>
    obtain⟨a,ha⟩:=fk.mp (hx (n,k) wo (by simpa using hk))
    have e:cellOf env n=pure a:=by unfold cellOf;rw[ha]
    simp only[hk,if_true,Xr,e,ha]
    exact ih _ fun y hy=>hx y (nh _ hy)
 have:=key scope.names [] h
 first
  |exact this
  |(simp only[bind_pure];exact this)
  |(rw[← bind_pure (pure (Xr env.cells scope.names []))];exact congrArg (· >>=pure) this)
set_option tactic.hygienic true in
theorem Ry{cells:List (Str × Addr)}{x:Str}{a:Addr}:∀{l:List (Str × mq)} {cs:List (Str × Addr)},(∀y∈l,y.2= .free→(cells.lookup y.1).isSome=true)→(Xr cells l cs).lookup x=some a→cs.lookup x=some a∨cells.lookup x=some a
 |[],cs,_,h=> .inl h
 |(n,k)::r,cs,hf,h=>by
  rw[Xr] at h
  rcases Ry (fun y hy=>hf y (nh _ hy)) h with h|h
  ·split at h
   ·rename_i hk
    rw[gz] at h
    split at h
    ·rename_i hx
     cases h
     obtain⟨b,hb⟩:=fk.mp (hf (n,k) wo (by simpa using hk))
     have hx:x=n:=by simpa using hx
     subst hx
     right
     rw[hb];rfl
    ·exact .inl h
   ·exact .inl h
  ·exact .inr h
theorem Ua{cells:List (Str × Addr)}{x:Str}:∀{l:List (Str × mq)} {cs:List (Str × Addr)},(cs.lookup x).isSome=true∨(x,.free)∈l→((Xr cells l cs).lookup x).isSome=true
 |[],cs,h=>by
  rcases h with h|h
  ·exact h
  ·cases h
 |(n,k)::r,cs,h=>by
  rw[Xr]
  refine Ua ?_
  rcases h with h|h
  ·left
   split
   ·rw[gz]
    split
    ·rfl
    ·exact h
   ·exact h
  ·rcases ay.mp h with h|h
   ·cases h
    left
    rw[if_pos (by decide),gz]
    simp
   ·exact .inr h
end
end
structure uZ(is:List Nat)(env:Ev)(k:Nat)(sv:S):Prop where
 n:k∉is
 e:env[k]?=some (some sv)
 o:ZO sv=false
theorem vA{is:List Nat}{env:Ev}{k:Nat}{sv:S}(h:(clr is env)[k]?=some (some sv)):k∉is∧env[k]?=some (some sv):=by
 induction is generalizing env with
 |nil=>exact⟨fun q=>(nomatch q),h⟩
 |cons i r ih=>
  have h:=ih h
  have e:(env.set i none)[k]?=some (some sv):=h.2
  rw[List.getElem?_set] at e
  by_cases q:i=k
  ·rw[if_pos q] at e
   split at e
   ·exact no (bh e)
   ·exact no e
  ·rw[if_neg q] at e
   exact⟨fun m=>(ay.mp m).elim (fun w=>q w.symm) h.1,e⟩
theorem PI{is:List Nat}{env:Ev}{k:Nat}{sv:S}(h:(strip is env)[k]?=some (some sv)):uZ is env k sv:=
 have h:=vA h
 (bk.mp ((f9 ..).symm.trans h.2)).elim fun o q=>by
  cases o with
  |none=>exact no q.2
  |some v=>cases v with
   |d v=>cases q.2;exact⟨h.1,q.1,rfl⟩
   |tag v=>cases q.2;exact⟨h.1,q.1,rfl⟩
   |_=>exact no q.2
noncomputable def PJ(sc:eg)(n:Str)(k:mq):Bool:=k== .free&&sc.kind== .function&&sc.names.lookup n==some .cell
noncomputable def MX(scope sc:eg):eg:={scope with names:=scope.names.map fun(n,k)=>if PJ sc n k then(n,.cell) else(n,k)}
noncomputable def SZ:List Nat→Bool
 |[]=>true
 |a::r=> !r.contains a&&SZ r
noncomputable def isFn(k:eg):Bool:=match k.kind with
 | .function=>true
 |_=>false
noncomputable def AA(sc scope:eg)(x:Str × mq):Bool:=match x.2 with
 | .local=>scope.names.lookup x.1==some .local
 | .free=>sc.names.lookup x.1==some .cell
 | .cell=>false
 |_=>true
noncomputable def MY(sc:eg)(nm:List (Str × Nat))(scope:eg)(nm':List (Str × Nat))(t:Expr)(is:List Nat):Bool:=
 isFn scope&&(scope.names.all (AA sc scope)&&
 (nm'.all (fun p=>(scope.names.lookup p.1==some .local&&is.contains p.2)||(scope.names.lookup p.1==some .free&&nm.lookup p.1==some p.2))&&
 (SZ (nm'.map (·.2))&&U7 false (MX scope sc) nm' t is)))
theorem Yk{κ α:Type}[BEq κ][LawfulBEq κ]{x n:κ}{a b:α}{l:List (κ × α)}(h:yc x ((n,a)::l)=some b){P:Prop}(k1:x=n→a=b→P)(k2:l.lookup x=some b→P):P:=by
 rw[gz] at h
 cases e:x==n with
 |true=>rw[e] at h;exact k1 (beq_iff_eq.mp e) (bh h)
 |false=>rw[e] at h;exact k2 h
theorem Zq{α:Type}{x:Str}{a:α}{l:List (Str × α)}(h:l.lookup x=some a):(x,a)∈l:=by
 induction l with
 |nil=>exact no h
 |cons p r ih=>exact Yk h (fun e q=>e▸q▸ .head _) fun h=> .tail _ (ih h)
theorem J2{c:Str→mq→Bool}{x:Str}{l:List (Str × mq)}:(l.map fun(n,k)=>if c n k then(n,A0t) else(n,k)).lookup x=(l.lookup x).map fun k=>if c x k then .cell else k:=by
 induction l with
 |nil=>rfl
 |cons p r ih=>
  have e:(if c p.1 p.2 then(p.1,A0t) else(p.1,p.2))=(p.1,if c p.1 p.2 then .cell else p.2):=by cases c p.1 p.2<;>rfl
  show yc x ((if c p.1 p.2 then(p.1,A0t) else(p.1,p.2))::_)=_
  rw[e,gz,gz]
  cases q:x==p.1 with
  |true=>cases beq_iff_eq.mp q;rfl
  |false=>exact ih
theorem N8{l:List (Str × Nat)}{x y:Str}{i:Nat}(hn:SZ (l.map (·.2))=true)(hx:(x,i)∈l)(hy:(y,i)∈l):x=y:=by
 induction l with
 |nil=>exact nomatch hx
 |cons p r ih=>
  have hn:=both hn
  have out:∀z,(z,p.2)∉r:=fun z hz=>(nomatch hn.1.symm.trans (congrArg (!·) (mw.mpr (ku.mpr ⟨(z,p.2),hz,rfl⟩))))
  exact(ay.mp hx).elim (fun h1=>(ay.mp hy).elim (fun h2=>congrArg Prod.fst (h1.trans h2.symm)) fun h2=>by cases h1;exact absurd h2 (out _)) fun h1=>(ay.mp hy).elim (fun h2=>by cases h2;exact absurd h1 (out _)) fun h2=>ih hn.2 h1 h2
structure X7(sc:eg)(nm:List (Str × Nat))(scope:eg)(nm':List (Str × Nat))(t:Expr)(is:List Nat):Prop where
 kind:scope.kind= .function
 AB:∀x∈scope.names,x.2≠.cell
 loc:∀x∈scope.names,x.2= .local→scope.names.lookup x.1=some .local
 free:∀x∈scope.names,x.2= .free→sc.names.lookup x.1=some .cell
 RJ:∀x i,nm'.lookup x=some i→(scope.names.lookup x=some .local∧i∈is)∨(scope.names.lookup x=some .free∧nm.lookup x=some i)
 inj:∀x y i,nm'.lookup x=some i→nm'.lookup y=some i→x=y
 tgt:U7 false (MX scope sc) nm' t is=true
theorem PK{sc scope:eg}{x:Str × mq}{k:mq}(h:AA sc scope x=true)(e:x.2=k):AA sc scope (x.1,k)=true:=e▸h
section
variable{sc:eg}{nm:List (Str × Nat)}{scope:eg}{nm':List (Str × Nat)}{t:Expr}{is:List Nat}
theorem N9(h:MY sc nm scope nm' t is=true):X7 sc nm scope nm' t is:=by
 have h1:=both h
 have h2:=both h1.2
 have h3:=both h2.2
 have h4:=both h3.2
 have nam:=az.mp h2.1
 refine⟨?_,fun x hx q=>(nomatch PK (nam x hx) q),fun x hx q=>beq_iff_eq.mp (PK (nam x hx) q),fun x hx q=>beq_iff_eq.mp (PK (nam x hx) q),fun x i q=> ?_,fun x y i hx hy=>N8 h4.1 (Zq hx) (Zq hy),h4.2⟩
 ·cases e:scope.kind with
  |function=>rfl
  |_=>
   have:=h1.1
   unfold isFn at this
   rw[e] at this
   exact nomatch this
 ·exact(jv.mp (az.mp h3.1 _ (Zq q))).imp (fun w=>⟨beq_iff_eq.mp (both w).1,mw.mp (both w).2⟩) fun w=>⟨beq_iff_eq.mp (both w).1,beq_iff_eq.mp (both w).2⟩
theorem X7.Abo(h:X7 sc nm scope nm' t is)(hk:sc.kind= .function){x:Str}(e:scope.names.lookup x=some .free):(MX scope sc).names.lookup x=some .cell:=
 (J2 (c:=PJ sc)).trans ((congrArg (A2l _) e).trans (congrArg some (if_pos (by
  unfold PJ
  rw[hk,h.free (x,.free) (Zq e) rfl]
  rfl))))
theorem X7.Abp(h:X7 sc nm scope nm' t is){x:Str}(e:(MX scope sc).names.lookup x=some .cell):scope.names.lookup x=some .free:=by
 obtain⟨k,e1,e2⟩:=bk.mp ((J2 (c:=PJ sc)).symm.trans e)
 cases hc:PJ sc x k with
 |true=>exact beq_iff_eq.mp (both (both hc).1).1▸e1
 |false=>
  rw[hc] at e2
  exact absurd e2 (h.AB _ (Zq e1))
end
noncomputable abbrev Cf.inner(c:Cf)(scope:eg)(nm':List (Str × Nat))(Ca Dd:Addr)(h0:Heap)(ex:List (D × aa))(kp:List (Addr × Obj)):Cf:=
 {c with ce:=compEnvC scope (Xr c.ce.cells scope.names []) Ca c.ce,nm:=nm',h0:=h0,νf:=Ca::Dd::c.νf,ex:=ex,kp:=kp,wr:=false}
theorem PL{ce:Env}{lm cm:Str→Option aa}{x:Str}(hk:ce.kindOf x=some .cell):Sx ce lm cm x=(ce.cells.lookup x).bind fun _=>cm x:=by unfold Sx;rw[hk]
theorem iU{ps:List (Nat × D)}{env:Ev}{k:Nat}(h:k∉ps.map (·.1)):(P4 env ps)[k]?=env[k]?:=by
 induction ps generalizing env with
 |nil=>rfl
 |cons p r ih=>
  have h:=not_or.mp (mt ay.mpr h)
  exact(ih h.2).trans (A08 fun q=>h.1 q.symm)
theorem iV{env env':Ev}{is:List Nat}{d:D}{k:Nat}(h:bindTo env is d=some env')(hk:k∉is):env'[k]?=env[k]?:=by
 match is with
 |[]=>cases d with
  |tup l=>cases l with
   |nil=>cases h;rfl
   |cons _ _=>exact no h
  |_=>exact no h
 |[i]=>cases h;exact A08 fun q=>hk (iy.mpr q.symm)
 |i::j::r=>cases Vt rfl h with|mk l el hl eq=>exact eq▸iU fun q=>(ku.mp q).elim fun p hp=>hk (hp.2▸(List.of_mem_zip hp.1).1)
section
variable{C:Cx}{c:Cf}{ν ν':List Addr}{env env':Ev}{st st':St}{s s' s1:ai}{X:Xp}{scope:eg}{nm':List (Str × Nat)}{t:Expr}{is:List Nat}{L' a Ca Dd:Addr}{lm cm m:Str→Option aa}{ex:List (D × aa)}{kp:List (Addr × Obj)}
theorem Cf.I.less(i:c.I ν env st s)(h:∀(k:Nat) (sv:S),env'[k]?=some (some sv)→env[k]?=some (some sv)):c.I ν env' st s:=
 ⟨i.base,i.lim,i.seer,i.stays,i.νB,i.frames,i.str,match i.VE with|⟨lm,cm,f⟩=>⟨lm,cm,f.ns,f.cell,f.SQ,f.lν,f.l0,fun x k sv e1 e2=>f.val x k sv e1 (h _ _ e2),fun x y k j sv sv' cv e1 e2 e3 e4=>f.KW x y k j sv sv' cv e1 e2 (h _ _ e3) (h _ _ e4)⟩,i.fν,i.SP,i.JR,i.JS,i.live,i.gens,i.Ws,i.X6,i.sin,i.os,i.al⟩
theorem Cf.I.off(i:c.I ν env st s)(ha:s.heap.get? a=none):Off c a:=match i.VE with
 |⟨lm,cm,f⟩=>⟨fun q=>f.ns.elim fun o w=>w.elim fun es w=>w.elim fun ep w=>Zj ha w.1 q,fun n e=>(f.cell n a e).is.elim fun o w=>Zj ha w.1 rfl⟩
theorem Nn.turn(f:Nn c ν env s.heap lm cm)(y:Turn L' s s')(hν:L'∈ν)(o:Off c L')(m:∀a o,s.heap.get? a=some o→LB o→WK c ν a→a≠L'):Nn c ν env s'.heap lm cm:=
 ⟨f.ns.elim fun ob w=>w.elim fun es w=>w.elim fun ep w=>⟨ob,es,ep,y.keep _ _ w.1 o.l.symm,w.2⟩,fun n b e=>(f.cell n b e).to fun ob g _=>y.keep _ _ g fun q=>o.c n (q▸e),f.SQ,f.lν,f.l0,
  fun x j sv e1 e2=>match f.val x j sv e1 e2 with|⟨cv,v1,v2⟩=>⟨cv,v1,SR.kp v2 (y.kp hν) (fun a o g l q=>y.keep a o g (m a o g l q)) fun _ h=>h⟩,f.KW⟩
theorem GY.mv{I:Addr}(y:GY I s s'):Kp ν ν s.heap s'.heap:=fun b o e n hb=>⟨y.keep b o e fun q=>y.was o (q▸e) n,hb⟩
theorem Cf.Go.turn(x:c.Go s1 s)(y:Turn L' s s')(h:s1.heap.get? L'=none):c.Go s1 s':=
 ⟨⟨fun b o e n h1 h2=>y.keep b o (x.h.keep b o e n h1 h2) fun q=>Zj h e q.symm,fun b o e n h1=>(x.h.VE b o e n h1).elim fun sl e1=>⟨sl,y.keep b _ e1 fun q=>Zj h e q.symm⟩,fun b o e n=>(x.h.live b o e n).elim fun o1 w=>⟨o1,y.keep b _ w.1 (fun q=>Zj h e q.symm),w.2⟩,
  fun k b o e=>y.keep b o (x.h.stays k b o e) fun q=>Zj h (k b o e) q.symm⟩,y.os.trans x.os,y.gens.trans x.gens,fun b o e v f=>y.keep b o (x.al b o e v f) fun q=>Zj h e q.symm⟩
theorem X7.frees(h:X7 c.ce.scope c.nm scope nm' t is)(ok:c.Ok):∀x∈scope.names,x.2= .free→(c.ce.cells.lookup x.1).isSome=true:=fun x hx q=>ok.Sb _ (h.free x hx q)
theorem X7.cl(h:X7 c.ce.scope c.nm scope nm' t is)(ok:c.Ok){x:Str}{a:Addr}(e:(Xr c.ce.cells scope.names []).lookup x=some a):c.ce.cells.lookup x=some a:=(Ry (h.frees ok) e).elim (fun q=>no q) id
theorem AD{h0:Heap}(ok:c.Ok)(h:X7 c.ce.scope c.nm scope nm' t is):(c.inner scope nm' Ca Dd h0 ex kp).Ok:=
 ⟨ok.frames,ok.handled,ok.head,ok.frame,fun x y a e1 e2=>ok.Qn x y a (h.cl ok e1) (h.cl ok e2),fun x e=>Ua (.inr (Zq (h.Abp e))),fun x y i=>h.inj x y i,h.kind,ok.globals,ok.builtins,ok.depth,ok.units⟩
theorem Cf.I.inner(i:c.I (Ca::Dd::ν) env st s)(i1:c.I ν env st s1)(g:c.Go s1 s)(ok:c.Ok)(h:X7 c.ce.scope c.nm scope nm' t is)(hn:s.heap.Ns Ca m)(n1:s1.heap.get? Ca=none)
  (hex:∀p∈ex,DR c.w (Ca::Dd::ν) s.heap p.1 p.2) (hkp:∀p∈kp,mG (Ca::Dd::ν) s.heap p):(c.inner scope nm' Ca Dd s1.heap ex kp).I (Ca::Dd::ν) (strip is env) st s:=
 ⟨i.base,i.lim,i.seer,i.stays,i.νB,i.frames,i.str,match i.VE with|⟨lm,cm,f⟩=>⟨m,cm,hn,fun n b e=>have q:=f.cell n b (h.cl ok e);⟨q.is,q.v,q.F,fun e=>(nomatch e),fun e=>(nomatch e)⟩,fun q=>i1.ZE n1 (i1.volν _ q) rfl,.head _,n1,fun x j sv e1 e2=>by
   have d:=PI e2
   refine(h.RJ x j e1).elim (fun q=>absurd q.2 d.n) fun q=> ?_
   cases f.val x j sv q.2 d.e with|mk cv v1 v2=>
   have v1:=(PL (h.free _ (Zq q.1) rfl)).symm.trans v1
   obtain⟨b,hb⟩:=fk.mp (Ua (cells:=c.ce.cells) (l:=scope.names) (cs:=[]) (.inr (Zq q.1)))
   rw[h.cl ok hb] at v1
   exact⟨cv,(PL (ce:=compEnvC scope (Xr c.ce.cells scope.names []) Ca c.ce) (h.Abo ok.kind q.1)).trans ((congrArg (Option.bind · fun _=>cm x) hb).trans v1),by
    cases sv with
    |d d=>exact v2
    |tag t=>exact v2
    |own l=>exact nomatch d.o
    |X4 l=>exact nomatch d.o⟩,fun x y j k sv sv' cv e1 e2 e3 e4 o1=>nomatch (PI e3).o.symm.trans o1⟩,
  fun a ha=>(ay.mp ha).elim (fun q=>q▸ .head _) fun ha=>(ay.mp ha).elim (fun q=>q▸ .tail _ (.head _)) fun ha=> .tail _ (.tail _ (i1.fν a ha)),
  fun a ha=> .tail _ (.tail _ (i1.SP a ha)),fun a ha=> .tail _ (.tail _ (i1.JR a ha)),i.JS,i.live,i.gens,hex,hkp,⟨g.h.keep,g.h.VE,g.h.live,g.h.stays⟩,i.os,g.al⟩
end
inductive Wx(C:Cx)(c:Cf)(ν:List Addr):List Expr→PE→Prop
 |nil:Wx C c ν [] .nil
 |one {e:Expr} {a r:PE} (h:YK C c ν e a):Wx C c ν [e] (.cons a r)
 |bad {l:List Expr}:Wx C c ν l .bad
abbrev J3(C:Cx)(cond elp:PE):Ev→St→(Option D→St→Prop)→Prop:=fun env st k=>dB C cond env st (fun b st=>Ka b (Xu C elp env st (fun v st=>RQ v fun v=>k (some v) st) To) (k none st) b) To
section
variable{C:Cx}{c:Cf}{ν:List Addr}{env:Ev}{st:St}{s s':ai}{I Dd:Addr}
theorem Cf.RX.no{ev:aa}(x:c.RX To ev s):False:=by cases x with|mk e k YY at_ st' od d fl a1 a2=>exact a2
theorem AE{ifs:List Expr}{p:PE}{K:Bool→St→Prop}{R:Bool→ai→Prop}(h:Wx C c ν ifs p)(i:c.I ν env st s)(hq:dB C p env st K To)(k:∀b st' s',K b st'→c.I ν env st' s'→c.Go s s'→R b s'):
  Zh c.M c.A (forIn ifs true fun e r=>if r=true then do let ok ← isTrue e c.ce (eval e c.ce);pure (lz ok) else pure (lz r)) R (fun _ _=>False) s:=by
 cases h with
 |nil=>exact up (wpAny_tests_nil (k _ _ _ hq i (.refl _ _)))
 |one h=>exact OG (Zi (mK.then (h _ _ _ _ _ i hq) fun b st1 s1 q1 i1 g1=>k _ _ _ q1 i1 g1) (fun _ _ q=>q) fun _ _ r=>r.no)
 |bad=>exact False.elim hq
inductive CompI(C:Cx)(c:Cf)(ν:List Addr)(env:Ev)(Dd:Addr)(items:List D)(St':Nat→Heap→Prop)(is:List Nat)(cond elp:PE)(Q:List D→St→Prop)(n:Nat)(s:ai):Prop
 |mk (k:Nat) (st:St) (xs:Array aa) (m:Nat) (acc:List D) (e:n=items.length - k) (z:k≤items.length) (h:St' k s.heap) (i:c.I ν env st s) (d:s.heap.get? Dd=some (Zo xs m)) (r:ZZ c.w ν s.heap acc xs.toList) (l:acc.length≤k) (q:Wf (J3 C cond elp) is (items.drop k) env st acc Q)
structure Abq(c:Cf)(Dd:Addr):Prop where
 o:Off c Dd
 f:Dd∈c.νf
 v:Dd∉YW c.ρ
 F:Dd∉c.F
 h0:c.h0.get? Dd=none
structure ItI(c:Cf)(ν:List Addr)(I:Addr):Prop where
 h0:c.h0.get? I=none
 B:c.B.get? I=none
 ν:I∉ν
 k:∀p∈c.kp,p.1≠I
theorem EP{elt iter t:Expr}{ifs:List Expr}{scope:eg}{pos:Pos}{is:List Nat}{cond elp:PE}{Q:List D→St→Prop}{RR:ly→ai→Prop}{fp:List Addr}{P:Nat→aa→Prop}{St':Nat→Heap→Prop}{items:List D}
  (ok:c.Ok) (ht:U7 c.wr c.ce.scope c.nm t is=true) (h2:∀kp,ZL C (c.cc c.ex kp) ν elt elp) (h3:∀kp,Wx C (c.cc c.ex kp) ν ifs cond) (hs:∀(k:Nat) (sv:S),env[k]?=some (some sv)→k∉is)
  (oD:Abq c Dd) (oI:ItI c ν I) (hlen:items.length≤YU) (W:Walks pw c.w c.A I fp [I] items.length P St') (item:∀k v,k<items.length→P k v→A4 c.w c.ex items k v) (JU:∀i h,St' i h→OE h I) (fpH:∀b∈fp,b=I∨b∈c.kp.map (·.1))
  (hR:∀l st s xs n,Q l st→c.I ν env st s→s.heap.get? Dd=some (Zo xs n)→ZZ c.w ν s.heap l xs.toList→xs.size≤YU→RR (.ok .next) s)
  (i:c.I ν env st s) (hst:St' 0 s.heap) (hD:s.heap.get? Dd=some (Zo #[] 0)) (hq:Wf (J3 C cond elp) is items env st [] Q):
  ZU c.M c.A (.compLoop (.ListComp elt [⟨t,iter,ifs,0⟩] scope pos) 0 (.ref I) (.ref Dd) c.ce) RR s:=by
 have νD:=i.fν _ oD.f
 have ID:Dd≠I:=fun q=>oI.ν (q▸νD)
 refine PF (CompI C c ν env Dd items St' is cond elp Q) (fun n s3 hI=> ?_) items.length ⟨0,st,#[],0,[],rfl,ie _,hst,i,hD,.nil,ie _,hq⟩
 cases hI with|mk k st3 xs m acc e z hst i3 hD hacc hal hq=>
 subst e
 have dr:=PD z
 generalize hr:items.drop k=rest at hq dr
 cases dr with
 |nil e=>
  subst e
  exact up (W.done _ _ _ hst fun h' tk hkeep=>have y:=(JU _ _ hst).turn (t:=tk) hkeep;hR acc st3 _ xs m hq (i3.U8 y oI.B oI.h0 oI.k) (y.keep _ _ hD ID) (hacc.mono y.mv) (hacc.size▸ao hal hlen))
 |@cons d _ lt d1 hn=>
  refine up (W.item k _ _ _ lt hst fun v h' tk hP hst' hkeep=> ?_)
  have y:=(JU _ _ hst).turn (t:=tk) hkeep
  have i4:=i3.U8 y oI.B oI.h0 oI.k
  cases item k v lt hP with|mk d' d1' d2=>
  cases bh (d1.symm.trans d1')
  have fl:=JU _ _ hst'
  refine up (fl.go (s:={s3 with heap:=h',toks:=tk}) (A9 hq fun env4 hb hq=> ?_))
  cases fl with|mk vs nI dc sl eI _=>
  have j4:(c.cc c.ex ((I,_)::c.kp)).I ν env st3 {s3 with heap:=h',toks:=tk}:=Cf.I.cc i4 i4.Ws fun p hp=>(ay.mp hp).elim (fun q=>q▸⟨eI,oI.ν⟩) (i4.X6 p)
  refine up (Vv (c:=c.cc c.ex ((I,_)::c.kp)) ok.cc j4 ht hb (d2.elim (fun d2=>i4.Ws (d,v) d2) fun d2=>d2 _ _) fun s5 i5 mv=> ?_)
  have hD5:=mv _ _ (y.keep _ _ hD ID) fun _=>⟨oD.o.l,oD.o.c⟩
  have hacc5:ZZ c.w ν s5.heap acc xs.toList:=(hacc.mono y.mv).mono fun b o e n hb=>⟨mv b o e fun q=>absurd (i5.fν b q) hb,hb⟩
  refine AE (c:=c.cc c.ex ((I,_)::c.kp)) (h3 _) i5 hq fun b st6 s6 q6 i6 g6=> ?_
  have hD6:=g6.al _ _ hD5 oD.v oD.F
  have hacc6:ZZ c.w ν s6.heap acc xs.toList:=hacc5.mono (i5.kn g6.h)
  have back:∀{s7 st7},(c.cc c.ex ((I,_)::c.kp)).I ν env4 st7 s7→St' (k+1) s7.heap∧c.I ν env st7 s7:=fun i7=>
   ⟨W.frame _ _ _ hst' fun b hb o eb=>by
    have go:∀p,p∈((I,_)::c.kp:List (Addr × Obj))→h'.get? p.1=some o→_:=fun p hp e=>bh (e.symm.trans (j4.X6 p hp).e)▸(i7.X6 p hp).e
    exact(fpH b hb).elim (fun q=>q▸go _ (.head _) (q▸eb)) fun q=>(ku.mp q).elim fun p hp=>hp.2▸go p (.tail _ hp.1) (hp.2▸eb),
   (Cf.I.cc (ex':=c.ex) (kp':=c.kp) i7 i7.Ws fun p hp=>i7.X6 p (.tail _ hp)).less fun k sv e=>(iV hb (hs k sv e)).trans e⟩
  have fin:∀{s7 st7 xs' m' acc'},(c.cc c.ex ((I,_)::c.kp)).I ν env4 st7 s7→s7.heap.get? Dd=some (Zo xs' m')→ZZ c.w ν s7.heap acc' xs'.toList→acc'.length≤k+1→Wf (J3 C cond elp) is (items.drop (k+1)) env st7 acc' Q→∃m,m<items.length - k∧CompI C c ν env Dd items St' is cond elp Q m s7:=fun i7 d7 r7 l7 q7=>
   ⟨items.length - (k+1),sd lt (gp k),k+1,_,_,_,_,rfl,lt,(back i7).1,(back i7).2,d7,r7,l7,q7⟩
  cases b with
  |false=>exact fin i6 hD6 hacc6 (nq hal) (hn▸q6)
  |true=>
   refine Zi (G9.then (c:=c.cc c.ex ((I,_)::c.kp)) (h2 _ _ _ _ _ _ i6 q6) fun sv cv7 st7 s7 q7 r7 i7 g7=>WO q7 r7 fun d7 q7 rd7=> ?_) (fun _ _ q=>q) fun _ _ r=>r.no
   have hD7:=g7.al _ _ hD6 oD.v oD.F
   have hacc7:ZZ c.w ν s7.heap acc xs.toList:=hacc6.mono (i6.kn g7.h)
   refine up (wpAny_list_append_plain ⟨m,hD7⟩ (fun h8 hpl hsb=>hpl.elim fun n8 e8=> ?_) (ao (hacc7.size▸hal) (ao z hlen)))
   have z8:Turn Dd s7 {s7 with heap:=h8}:=⟨fun b o e hb=>hsb.extBut b o hb e,fun o e n=>⟨_,e8,Ym⟩,rfl,rfl⟩
   exact fin (Cf.I.turn (c:=c.cc c.ex ((I,_)::c.kp)) i7 z8 νD oD.h0 oD.v (match i7.VE with|⟨lm,cm,f⟩=>⟨lm,cm,f.turn z8 νD ⟨oD.o.l,oD.o.c⟩ fun a o g l q e=>q.f (e▸oD.f)⟩)) e8 (by
    rw[yb]
    exact(hacc7.mono (z8.kp νD)).app (.cons (rd7.mono (z8.kp νD)) .nil)) (by
    rw[b4];exact cj hal) (hn▸q7)
end
section
variable{C:Cx}{c:Cf}{ν:List Addr}{env:Ev}{st:St}{s s':ai}{X:Xp}
theorem none_of{h h':Heap}{a:Addr}(k:∀b o,h.get? b=some o→h'.get? b=some o)(e:h'.get? a=none):h.get? a=none:=by
 cases q:h.get? a with
 |none=>rfl
 |some o=>exact absurd rfl (Zj e (k _ _ q))
abbrev U9(C:Cx)(c:Cf)(scope:eg)(nm':List (Str × Nat))(P:Cf→List Addr→Prop):Prop:=∀c' ν',c'.Ok→c'.ce.scope=MX scope c.ce.scope→c'.nm=nm'→c'.r=c.r→c'.w=c.w→P c' ν'
theorem Uk{a b:Addr}(n:a≠b){l:List Addr}(h:a∉l):a∉b::l:=fun q=>(ay.mp q).elim n h
variable{elt iter t:Expr}{ifs:List Expr}{scope:eg}{pos ppos:Pos}{is:List Nat}{it cond elp:PE}{nm':List (Str × Nat)}{use:Option (aa→Sem Unit)}{QQ:aa→ai→Prop}{Q:List D→St→Prop}
structure CompEnd(c:Cf)(ν:List Addr)(env:Ev)(Q:List D→St→Prop)(s:ai)(Da Ca:Addr)(l:List D)(st':St)(s':ai):Prop where
 q:Q l st'
 i:c.I (Ca::ν) env st' s'
 r:DR c.w (Ca::ν) s'.heap (.list l) (.ref Da)
 g:c.Go s s'
 f:s.heap.get? Ca=none
theorem AF{I Dd Ca:Addr}{items:List D}{fp:List Addr}{P:Nat→aa→Prop}{St':Nat→Heap→Prop}{Ws:List (D × aa)}{kp:List (Addr × Obj)}{s1 s2:ai}{h₁:Heap}{tk:Nat}{m:Str→Option aa}{st1:St}
  (ok:c.Ok) (h:X7 c.ce.scope c.nm scope nm' t is) (h2:U9 C c scope nm' fun c' ν'=>ZL C c' ν' elt elp) (h3:U9 C c scope nm' fun c' ν'=>Wx C c' ν' ifs cond) (i1:c.I ν env st1 s1) (g1:c.Go s s1) (src:Src c ν s1 s2 I items fp P St' Ws kp)
  (hl:items.length≤YU) (hq:Wf (J3 C cond elp) is items (strip is env) st1 [] Q)
  (hRR:∀l st5 s5 m,CompEnd c ν env Q s Dd Ca l st5 s5→s5.heap.Ns Ca m→WU c.M c.A (c.RX X) use QQ (.ref Dd) Ca (.ok .next) s5)
  (k2:∀b o,s2.heap.get? b=some o→h₁.get? b=some o) (nD:s2.heap.get? Dd=none) (nC:s2.heap.get? Ca=none) (DC:Dd≠Ca) (hD:h₁.get? Dd=some (Zo #[] 0)) (hn:h₁.Ns Ca m):
  ZU c.M c.A (.compStart (.ListComp elt [⟨t,iter,ifs,0⟩] scope pos) 0 (.ref I) (.ref Dd) (compEnvC scope (Xr c.ce.cells scope.names []) Ca c.ce)) (WU c.M c.A (c.RX X) use QQ (.ref Dd) Ca) {s2 with heap:=h₁,toks:=tk}:=by
 have n1D:=none_of src.ks.keeps nD
 have n1C:=none_of src.ks.keeps nC
 have up4:∀b o,s1.heap.get? b=some o→h₁.get? b=some o:=fun b o e=>k2 _ _ (src.ks.keeps _ _ e)
 have g4:c.Go s1 {s2 with heap:=h₁,toks:=tk}:=src.ks.go.trans (.of_keeps k2)
 have out:∀{b o},s1.heap.get? b=some o→b∉ν→b∉Ca::Dd::ν:=fun e hb=>Uk (fun q=>Zj n1C e q.symm) (Uk (fun q=>Zj n1D e q.symm) hb)
 have kq:∀p∈kp++c.kp,mG ν s1.heap p:=fun p hp=>(jk.mp hp).elim (src.uW p) (i1.X6 p)
 have k4:∀p∈kp++c.kp,mG (Ca::Dd::ν) h₁ p:=fun p hp=>⟨up4 _ _ (kq p hp).e,out (kq p hp).e (kq p hp).n⟩
 have grow:∀{b o},s1.heap.get? b=some o→NF o→b∉ν→h₁.get? b=some o∧b∉Ca::Dd::ν:=fun e _ hb=>⟨up4 _ _ e,out e hb⟩
 have i4:c.I (Ca::Dd::ν) env st1 {s2 with heap:=h₁,toks:=tk}:=i1.to g4.h g4.os g4.gens ((i1.str.YC fun b o e hb=>out e hb).keeps up4) (fun p hp=>k4 p (e7 _ hp)) (i1.al.trans g4.al) (fun _ h=> .tail _ (.tail _ h))
  fun a ha=>(ay.mp ha).elim (fun q=> .inr (q▸⟨n1C,TZ hn⟩)) fun ha=>(ay.mp ha).elim (fun q=> .inr (q▸⟨n1D,_,hD,Ym⟩)) .inl
 have i5:=i4.inner (ex:=Ws++c.ex) (kp:=kp++c.kp) i1 g4 ok h hn n1C (fun p hp=>(jk.mp hp).elim (fun hp=>(src.uY p hp).mono fun b o e n hb=>grow e n hb) (i4.Ws p)) k4
 have W:=src.walks c.A ok.handled
 have st0:=W.frame _ _ _ src.st fun b _ o e=>k2 b o e
 have ok1:=AD (Ca:=Ca) (Dd:=Dd) (h0:=s1.heap) (ex:=Ws++c.ex) (kp:=kp++c.kp) ok h
 have oI:I∉ν:=fun q=>i1.ZE src.fresh q rfl
 have nI:∀a,s2.heap.get? a=none→I≠a:=fun a ha q=>(match src.JU _ _ src.st with|⟨_,_,_,_,e,_⟩=>Zj ha e q.symm)
 have kI:∀p∈kp++c.kp,p.1≠I:=fun p hp q=>Zj src.fresh (kq p hp).e q.symm
 have loop:=EP (iter:=iter) (pos:=pos) (scope:=scope) (RR:=WU c.M c.A (c.RX X) use QQ (.ref Dd) Ca) ok1 h.tgt (fun kp=>h2 _ _ ok1.cc rfl rfl rfl rfl) (fun kp=>h3 _ _ ok1.cc rfl rfl rfl rfl) (fun k sv e=>(PI e).n)
  ⟨⟨DC,fun n e=>(i1.off n1D).c n (h.cl ok e)⟩,.tail _ (.head _),fun q=>i1.ZE n1D (i1.volν _ q) rfl,fun q=>i1.ZE n1D (i1.frν _ q) rfl,n1D⟩ ⟨src.fresh,none_of i1.stays src.fresh,Uk (nI _ nC) (Uk (nI _ nD) oI),kI⟩
  hl W (fun k v z p=>match src.item k v z p with|⟨d,e,m⟩=>⟨d,e,m.imp (jo _) id⟩) src.JU (fun b hb=>(src.fpH b hb).imp id fun q=>(bf▸jo _ q:b∈(kp++c.kp).map (·.1)))
  (fun l st5 s5 xs n hQ i5 hD5 r5 z5=>by
   have g5:c.Go s1 s5:=⟨⟨i5.sin.keep,i5.sin.VE,i5.sin.live,i5.sin.stays⟩,i5.os.trans i1.os.symm,i5.gens.trans i1.gens.symm,i5.al⟩
   cases i5.VE with|mk lm cm f=>
   have sub:∀a∈Ca::ν,a∈Ca::Dd::ν:=fun a ha=>(ay.mp ha).elim (fun q=>q▸ .head _) fun h=> .tail _ (.tail _ h)
   have i9:c.I (Ca::ν) env st5 s5:=i1.to g5.h g5.os g5.gens (i5.str.YC fun b o e hb q=>hb (sub _ q)) (fun p hp=>⟨g5.al _ _ (i1.X6 p hp).e (fun q=>(i1.X6 p hp).n (i1.volν _ q)) fun q=>(i1.X6 p hp).n (i1.frν _ q),Uk (fun q=>Zj n1C (i1.X6 p hp).e q.symm) (i1.X6 p hp).n⟩) (i1.al.trans g5.al)
    (fun _=> .tail _) fun a ha=>(ay.mp ha).elim (fun q=> .inr (q▸⟨n1C,TZ f.ns⟩)) .inl
   refine hRR l st5 s5 lm ⟨hQ,i9,.list hD5 (Uk DC fun q=>i1.ZE n1D q rfl) (r5.shrink sub) z5,g1.trans g5,?_⟩ f.ns
   cases e:s.heap.get? Ca with
   |none=>rfl
   |some o=>exact absurd rfl (Zj n1C (g1.al _ _ e (fun q=>i1.ZE n1C (i1.volν _ q) rfl) fun q=>i1.ZE n1C (i1.frν _ q) rfl))) i5 st0 hD hq
 exact VZ loop (up (W.self 0 _ _ _ st0 loop))
theorem NA(ok:c.Ok)(h:X7 c.ce.scope c.nm scope nm' t is)(hc:OF iter=true)(h1:MW C c ν iter it)(h2:U9 C c scope nm' fun c' ν'=>ZL C c' ν' elt elp)(h3:U9 C c scope nm' fun c' ν'=>Wx C c' ν' ifs cond)
  (i:c.I ν env st s) (hq:xS C it env st (fun items st=>lim items.length (Wf (J3 C cond elp) is items (strip is env) st [] Q)) X)
  (hRR:∀D Ca l st5 s5 m,CompEnd c ν env Q s D Ca l st5 s5→s5.heap.Ns Ca m→WU c.M c.A (c.RX X) use QQ (.ref D) Ca (.ok .next) s5):
  Zh c.M c.A (comprehension (.ListComp elt [⟨t,iter,ifs,0⟩] scope pos) scope c.ce ppos (newList []) false (eval iter c.ce) use) QQ (c.RX X) s:=by
 refine So rfl (fun x=>Vw hc) (OH (h.frees ok)) h.kind h.loc (fun _ _ _=>rfl) (Zi (h1 _ _ _ _ _ i hq) (fun cv s1 x=> ?_) fun _ _ e=>e)
 cases x with|mk items st1 q1 i1 g1 kit=>
 have hl:=Yv q1
 refine up (kit _ _ _ fun I fp P St Ws kp s2 src=>up (qo (up (wpAny_newFunctionEnv h.AB (fun y hy=>(nomatch hy)) (fun h₁ hns₁ hsb₁=> ?_) h.kind))))
 have hDa:(s2.heap.push (Zo #[] 0)).get? s2.heap.objs.size=some (Zo #[] 0):=b9 _ rfl
 have hCn:=Zs (s2.heap.push (Zo #[] 0))
 have kC:∀b o,(s2.heap.push (Zo #[] 0)).get? b=some o→h₁.get? b=some o:=fun b o e=>hsb₁.extBut b o (fun q=>Zj hCn e q.symm) (au _ e)
 exact AF (s2:=s2) (Ca:=(s2.heap.push (Zo #[] 0)).objs.size) ok h h2 h3 i1 g1 src hl.1 hl.2 (fun l st5 s5 m=>hRR _ _ l st5 s5 m) (fun b o e=>kC b o (au _ e)) (Zs _) (none_of (fun b o=>au _) hCn) (fun q=>Zj hCn hDa q.symm) (kC _ _ hDa) hns₁
end
section
variable{C:Cx}{c:Cf}{ν:List Addr}{env:Ev}{st:St}{s s':ai}{X:Xp}{elt iter t:Expr}{ifs:List Expr}{scope:eg}{pos:Pos}{is:List Nat}{it cond elp:PE}{nm':List (Str × Nat)}
theorem Fb{Ca:Addr}{h':Heap}{m:Str→Option aa}(hn:h'.Ns Ca m)(hs:gu Ca s.heap h'):Turn Ca s {s with heap:=h'}:=⟨fun b o e hb=>hs.extBut b o hb e,fun o e n=>TZ hn,rfl,rfl⟩
theorem J4(ok:c.Ok)(h:MY c.ce.scope c.nm scope nm' t is=true)(hc:OF iter=true)(h1:MW C c ν iter it)(h2:U9 C c scope nm' fun c' ν'=>ZL C c' ν' elt elp)(h3:U9 C c scope nm' fun c' ν'=>Wx C c' ν' ifs cond):
  ZL C c ν (.ListComp elt [⟨t,iter,ifs,0⟩] scope pos) (.comp elp is it cond):=fun env st Q X s i hq=>by
 show Zh _ _ (eval _ _) _ _ _
 rw[eval_ListComp]
 refine NA (use:=none) (Q:=fun l st=>Q (.d (.list l)) st) ok (N9 h) hc h1 h2 h3 i hq fun D Ca l st5 s5 m x hns=>⟨m,hns,fun h' m' hn' hs'=> ?_⟩
 have y:=Fb hn' hs'
 have hv:Ca∉YW c.ρ:=fun q=>i.ZE x.f (i.volν _ q) rfl
 have g:=x.g.turn y x.f
 exact⟨_,st5,x.q,DR.shrink (x.r.mono (y.kp (.head _))) fun _=> .tail _,i.go g ((x.i.str.kv fun b o e n q=>y.keep b o e fun w=>hv (w▸q (w▸ .head _))).YC fun b o e hb q=>hb (.tail _ q)),g⟩
theorem MZ{x:Str}{p spos:Pos}{j:Nat}(ok:c.Ok)(hx:Xk c.wr c.ce.scope c.nm x j=true)(h:MY c.ce.scope c.nm scope nm' t is=true)(hc:OF iter=true)(h1:∀ν,MW C c ν iter it)
  (h2:U9 C c scope nm' fun c' ν'=>ZL C c' ν' elt elp) (h3:U9 C c scope nm' fun c' ν'=>Wx C c' ν' ifs cond):
  ZJ C c (.Assign [.Name x p] (.ListComp elt [⟨t,iter,ifs,0⟩] scope pos) spos) (.set j (.comp elp is it cond)):=fun ν env st N R X s i hq=>by
 have hx':=Ys ok hx
 have e:∃b,swapsWith (.ListComp elt [⟨t,iter,ifs,0⟩] scope pos) (some (.Name x p)) spos.line c.ce=pure b:=⟨_,rfl⟩
 obtain⟨b,e⟩:=e
 cases b with
 |true=>
  rw[exec_Assign_Name_used _ _ _ _ e]
  refine Zp (Ze (P:=fun _=>VQ c N R .next) ?_ fun _ s' hp=>Zc hp)
  show Zh _ _ (do let _ ← comprehension (.ListComp elt [⟨t,iter,ifs,0⟩] scope pos) scope c.ce _ (newList []) false (eval iter c.ce) (some (assign (.Name x p) c.ce))) _ _ s
  refine Ze (NA (use:=some (assign (.Name x p) c.ce)) (QQ:=fun _=>VQ c N R .next) (Q:=fun l st=>N (env.set j (some (.d (.list l)))) st) ok (N9 h) hc (h1 ν) h2 h3 i hq fun D Ca l st5 s5 m x hns=> ?_) fun _ s' hp=>Zc hp
  refine up (ya (Uj ok x.i x.r hx' fun s6 y6=> ?_))
  have hf:Ca∉c.νf:=fun q=>i.ZE x.f (i.fν _ q) rfl
  refine⟨m,hns.elim fun o w=>w.elim fun es w=>w.elim fun ep w=>⟨o,es,ep,y6.mv _ _ w.1 fun q=>absurd q hf,w.2⟩,fun h' m' hn' hs'=> ?_⟩
  have y:=Fb hn' hs'
  refine⟨Ca::ν,_,st5,x.q,y6.i.turn y (.head _) ?_ (fun q=>hf (i.SP _ q)) (match y6.i.VE with|⟨lm,cm,f⟩=>⟨lm,cm,f.turn y (.head _) (i.off x.f) fun a o g l _ q=>hns.elim fun o' w=>w.elim fun es w=>w.elim fun ep w=>l.d _ _ (congrArg Obj.data (bh (g.symm.trans (q▸y6.mv _ _ w.1 fun q=>absurd q hf)))▸w.2.1)⟩)⟩
  show c.h0.get? Ca=none
  cases e:c.h0.get? Ca with
  |none=>rfl
  |some o=>exact absurd rfl (Zj x.f (i.al _ _ e (fun q=>hf (i.SP _ q)) fun q=>hf (i.JR _ q)))
 |false=>exact ZD ((J4 ok h hc (h1 ν) h2 h3 _ _ _ _ _ i hq).then fun sv cv st1 s1 q1 r1 i1 g1=>P1 q1 r1 fun d q r=>up (Uj ok i1 r hx' fun s2 y=>⟨ν,_,st1,q,y.i⟩)) e
end
section
variable{prog:k9}{w:b3}{A:bz}{s:ai}{R:ly→ai→Prop}
theorem Uv{a:Addr}{args:Args}{o:Obj}{fd:jh}{body:List Stmt}(hroom:A.depth<A09)
  (ho:s.heap.get? a=some o)
  (hd':o.data= .func fd) (hco:fd.scope.isCoroutine=false) (hgen:fd.scope.isGenerator=false) (hbody:fd.body= .stmts body) (hcd:s.heap.CodeRec fd.code fd.qualname)
  (h:wpAny (model prog w) A.in1 (m6 fd args) (fun binds s₁=>
   wpAny (model prog w) A.in1 (newFunctionEnv fd.scope fd.globals fd.closure binds (fd.qualname++".<locals>.") (some a) fd.code none fd.builtins)
    (fun env s₂=>s₂.heap.NoLimit∧ZU (model prog w) A (.func body env) R s₂) (fun e s'=>R (.error e) s') s₁) (fun e s'=>R (.error e) s') s):
  ZU (model prog w) A (.call (.ref a) args) R s:=by
 refine Z3 (up ?_)
 show wpAny _ A.in1 (A0S (.ref a) args) _ _ s
 refine ak (nu ho ?_)
 cases o with|mk oc od da sl=>
 cases hd'
 obtain⟨c,oc,vs,tq,hc,hoc,hdc,hq⟩:=hcd
 show wpAny _ A.in1 (callFunction a fd args) _ _ s
 delta callFunction
 rw[hc] at h ⊢
 refine ak (m:=field (.ref c) 1) (pn hoc hdc hq (ak (bg ?_)))
 refine ak (o4 h (fun binds s₁ h₁=>ak (o4 h₁ (fun env s₂ h₂=>ak (wpAny_enterFrame h₂.1 hroom ?_)) fun _ _ h'=>h')) fun _ _ h'=>h')
 rw[hbody,hgen,hco]
 exact bg ⟨rfl,rfl,h₂.2⟩
set_option backward.match.sparseCases true in
theorem X8{a:Addr}{o:Obj}{fd:jh}{body:List Stmt}{vals:List aa}{binds:List (Str × aa)}
  (hroom:A.depth<A09) (ho:s.heap.get? a=some o) (hdata:o.data= .func fd) (hlim:s.heap.NoLimit) (hcd:s.heap.CodeRec fd.code fd.qualname)
  (hbody:fd.body= .stmts body) (hbind:BindsTo s fd ⟨vals,[]⟩ binds) (hclo:fd.closure=[])
  (hkind:∀x∈binds,fd.scope.names.lookup x.1=some .local∨(fd.scope.names.lookup x.1=some .cell∧((A0d (s.heap.objs.size+1) fd.scope.names []).lookup x.1).isSome=true))
  (h:∀s₁,InCallC s (callEnvC fd s.heap.objs.size a).locals (bindL (callEnvC fd s.heap.objs.size a).kindOf binds fun _=>none) (callEnvC fd s.heap.objs.size a).cells
    (bindC (callEnvC fd s.heap.objs.size a).kindOf binds fun _=>none) s₁→
   Zh (model prog w) (A.deeper (callEnvC fd s.heap.objs.size a)) (execs body (callEnvC fd s.heap.objs.size a)) (fun f s'=>R (.ok (.ret (match f with| .ret v=>v|_=> .none))) s')
    (fun e s'=>Zh (model prog w) (A.deeper (callEnvC fd s.heap.objs.size a)) (leaving (callEnvC fd s.heap.objs.size a) e) (fun _ s''=>R (.error e) s'') (fun e' s''=>R (.error e') s'') s') s₁)
  (hco:fd.scope.isCoroutine=false) (hgen:fd.scope.isGenerator=false) (hk:fd.scope.kind= .function):
  ZU (model prog w) A (.call (.ref a) ⟨vals,[]⟩) R s:=by
 refine Uv hroom ho hdata hco hgen hbody hcd ?_
 refine hbind _ _ _ _ ?_
 rw[hclo]
 refine wpAny_newFunctionEnv_cells hk hkind fun env he s' x=> ?_
 subst he
 exact⟨hlim.keeps x.toInCall.keep,Io (h s' x)⟩
end
theorem AG{k:Str→Option mq}{x:Str}{b:List (Str × aa)}{m:Str→Option aa}(h:x∉b.map (·.1)):bindL k b m x=m x:=by
 induction b generalizing m with
 |nil=>rfl
 |cons p r ih=>
  have h:=not_or.mp (mt ay.mpr h)
  refine(ih h.2).trans ?_
  split
  ·exact if_neg h.1
  ·rfl
theorem AH{k:Str→Option mq}{x:Str}{b:List (Str × aa)}{m:Str→Option aa}(h:x∉b.map (·.1)):bindC k b m x=m x:=by
 induction b generalizing m with
 |nil=>rfl
 |cons p r ih=>
  have h:=not_or.mp (mt ay.mpr h)
  refine(ih h.2).trans ?_
  split
  ·rfl
  ·exact if_neg h.1
theorem J5{k:Str→Option mq}{x:Str}{v:aa}(hk:k x=some .local){b:List (Str × aa)}{m:Str→Option aa}(hn:(b.map (·.1)).Nodup)(h:(x,v)∈b):bindL k b m x=some v:=by
 induction b generalizing m with
 |nil=>exact nomatch h
 |cons p r ih=>
  have hn:=se.mp hn
  refine(ay.mp h).elim (fun e=> ?_) fun h=>ih hn.2 h
  cases e
  exact(AG hn.1).trans ((congrFun (if_pos hk) x).trans (if_pos rfl))
theorem AI{k:Str→Option mq}{x:Str}{v:aa}(hk:¬k x=some .local){b:List (Str × aa)}{m:Str→Option aa}(hn:(b.map (·.1)).Nodup)(h:(x,v)∈b):bindC k b m x=some v:=by
 induction b generalizing m with
 |nil=>exact nomatch h
 |cons p r ih=>
  have hn:=se.mp hn
  refine(ay.mp h).elim (fun e=> ?_) fun h=>ih hn.2 h
  cases e
  exact(AH hn.1).trans ((congrFun (if_neg hk) x).trans (if_pos rfl))
theorem cellsFrom_some{x:Str}{l:List (Str × mq)}{n:Nat}{cs:List (Str × Addr)}(h:(cs.lookup x).isSome=true∨(x,.cell)∈l):((A0d n l cs).lookup x).isSome=true:=by
 induction l generalizing n cs with
 |nil=>exact h.elim id fun h=>nomatch h
 |cons p r ih=>
  show(yc x (if (p.2== .cell)=true then A0d (n+1) r ((p.1,n)::cs) else A0d n r cs)).isSome=true
  by_cases hk:(p.2== .cell)=true
  ·rw[if_pos hk]
   have e:∀a,x=p.1→(yc x ((p.1,a)::cs)).isSome=true:=fun a q=>by rw[q,gz,beq_self_eq_true];rfl
   refine ih (h.elim (fun h=> .inl ?_) fun h=>(ay.mp h).elim (fun q=> .inl (e _ (congrArg Prod.fst q))) .inr)
   rw[gz]
   cases x==p.1 with
   |true=>rfl
   |false=>exact h
  ·rw[if_neg hk]
   exact ih (h.imp id fun h=>(ay.mp h).elim (fun q=>absurd (beq_iff_eq.mpr (congrArg Prod.snd q).symm) hk) id)
theorem WW{ns:List Str}{vs:List aa}(h:vs.length=ns.length):(ns.zip vs).map (·.1)=ns:=List.map_fst_zip (u6 h.symm)
structure Yt(P:b7)(f:Addr)(fd:jh)(o:Obj)(body:List Stmt)(names:List Str):Prop where
 look:(KF P).lookup f=some o
 data:o.data= .func fd
 code:codeIn (KF P) fd.code fd.qualname=true
 body:fd.body= .stmts body
 clo:fd.closure=[]
 gl:fd.globals=mainGlobals
 bl:fd.builtins=builtinsNs
 co:fd.scope.isCoroutine=false
 gen:fd.scope.isGenerator=false
 kind:fd.scope.kind= .function
 binds:∀S (vals:List aa),vals.length=names.length→peek (KF P) S (m6 fd ⟨vals,[]⟩)=some (names.zip vals)
noncomputable def Ub:List Str→Bool
 |[]=>true
 |a::r=> !r.contains a&&Ub r
theorem WV{l:List Str}(h:Ub l=true):l.Nodup:=by
 induction l with
 |nil=>exact .nil
 |cons a r ih=>exact se.mpr ⟨fun m=>(nomatch (both h).1.symm.trans (congrArg (!·) (mw.mpr m))),ih (both h).2⟩
noncomputable def RK(sc:eg)(nm:List (Str × Nat))(names:List Str):Bool:=
 Ub names&&(names.all (fun x=>sc.names.lookup x==some .local||sc.names.lookup x==some .cell)&&
 (SZ (nm.map (·.2))&&nm.all (fun p=> !decide (p.2<names.length)||names[p.2]?==some p.1)))
theorem SS.at{c:Cf}{ν:List Addr}{h:Heap}{l:List S}{vs:List aa}{i:Nat}{a:S}(r:SS c ν h l vs)(e:l[i]?=some a):∃v,vs[i]?=some v∧c.SR ν h a v:=by
 induction r generalizing i with
 |nil=>exact no e
 |cons a r ih=>cases i with
  |zero=>cases e;exact⟨_,rfl,a⟩
  |succ i=>exact ih e
theorem SS.len{c:Cf}{ν:List Addr}{h:Heap}{l:List S}{vs:List aa}(r:SS c ν h l vs):l.length=vs.length:=by
 induction r with
 |nil=>rfl
 |cons a r ih=>exact congrArg (· +1) ih
noncomputable def Rz(ce:Env):List Addr:=ce.cells.filterMap fun p=>ce.cells.lookup p.1
noncomputable abbrev Cf.deep(c:Cf)(ρ:Ad)(ν:List Addr)(ce:Env)(nm:List (Str × Nat))(r:Nat)(h0:Heap):Cf:=
 {w:=c.w,A:=c.A.deeper ce,B:=c.B,ρ:=ρ,fr:=ce::c.fr,h0:=h0,νf:=Rz ce++ce.locals::ν,ce:=ce,nm:=nm,L:=ce.locals,r:=r,os:=c.os}
structure cP(c:Cf)(ν:List Addr)(st:St)(s:ai):Prop where
 iX:c.A.frames=some c.fr
 handled:c.A.handled=none
 depth:c.A.depth+6*c.r+100<1000
 units:c.A.units+40*c.r<9000
 base:Sz c.w c.B
 lim:c.B.NoLimit
 seer:c.B.NoSeer
 stays:c.B.StaysIn s.heap
 νB:∀a∈ν,c.B.get? a=none
 frames:s.heap.FunFrames c.B c.fr
 str:V1 c.w ν c.ρ st s.heap
 volν:∀a∈YW c.ρ,a∈ν
 frν:∀a∈c.F,a∈ν
 JS:∀a∈c.F,a∉YW c.ρ
 live:∀a∈ν,∃o,s.heap.get? a=some o∧NF o
 gens:s.gens= #[]
 os:s.os=c.os
theorem Cf.I.pre{c:Cf}{ν:List Addr}{env:Ev}{st:St}{s:ai}(i:c.I ν env st s)(ok:c.Ok):cP c ν st s:=⟨ok.frames,ok.handled,ok.depth,ok.units,i.base,i.lim,i.seer,i.stays,i.νB,i.frames,i.str,i.volν,i.frν,i.JS,i.live,i.gens,i.os⟩
theorem cP.ZE{c:Cf}{ν:List Addr}{st:St}{s:ai}(i:cP c ν st s){a:Addr}(ha:s.heap.get? a=none){b:Addr}(h:b∈ν):b≠a:=fun q=>(i.live b h).elim fun o e=>Zj ha e.1 q.symm
theorem cP.K{c:Cf}{ν:List Addr}{st:St}{s:ai}(i:cP c ν st s):(KF c.w.params).In s.heap:=(HW i.base).keeps i.stays
structure Sp(sc:eg)(ce:Env)(h h₁:Heap)(lm cm:Str→Option aa):Prop where
 fr:ce.frame=some ce.locals
 iY:ce.scope=sc
 gl:ce.globals=mainGlobals
 bl:ce.builtins=builtinsNs
 kk:∀b o,h.get? b=some o→h₁.get? b=some o
 ns:h₁.Ns ce.locals lm
 cell:∀n b,ce.cells.lookup n=some b→h₁.IsCell b (cm n)
 n:h.get? ce.locals=none
 nc:∀n b,ce.cells.lookup n=some b→h.get? b=none
 ne:∀n b,ce.cells.lookup n=some b→b≠ce.locals
 inj:∀x y a,ce.cells.lookup x=some a→ce.cells.lookup y=some a→x=y
 all:∀x,sc.names.lookup x=some .cell→(ce.cells.lookup x).isSome=true
section
variable{C:Cx}{c:Cf}{ν:List Addr}{env:Ev}{st:St}{s s':ai}{X:Xp}{sc:eg}{ce:Env}{h₁:Heap}{lm cm:Str→Option aa}{nm:List (Str × Nat)}{r k tk:Nat}{ρ':Ad}{vs:List S}{cvs:List aa}{names:List Str}
theorem AK{a:Addr}(h:a∈Rz ce):∃n,ce.cells.lookup n=some a:=(su.mp h).elim fun p q=>⟨_,q.2⟩
theorem AJ{a:Addr}{n:Str}(e:ce.cells.lookup n=some a):a∈Rz ce:=su.mpr ⟨(n,a),Zq e,e⟩
theorem mS{a p k r x n:Nat}(hp:p≤k)(h:a+k*(r+1)+x<n):a+p+k*r+x<n:=by
 rw[Nat.mul_succ] at h
 refine bq (jm ?_ x) h
 rw[A0q,we p];exact d9 (d9 hp _) a
theorem iW(N:Sp sc ce s.heap h₁ lm cm)(ok:cP c ν st s)(hr:c.r=r+1)(hg:sc.isGenerator=false)(hc:sc.isCoroutine=false)(hk:sc.kind= .function)(hn:SZ (nm.map (·.2))=true):(c.deep ρ' ν ce nm r s.heap).Ok:=
 have d:=ok.depth
 have u:=ok.units
 ⟨congrArg (A2l (ce:: ·)) ok.iX,ok.handled,⟨ce,c.fr,rfl,N.fr,N.iY▸hg,N.iY▸hc,N.bl,N.gl⟩,N.fr,N.inj,fun x e=>N.all x (N.iY▸e),fun x y i e1 e2=>N8 hn (Zq e1) (Zq e2),N.iY▸hk,N.gl,N.bl,
  mS (p:=1) (k:=6) (x:=100) (by decide) (hr▸d),mS (p:=3) (k:=40) (x:=0) (by decide) (hr▸u)⟩
theorem WX(N:Sp sc ce s.heap h₁ lm cm):Uh (ce::c.fr)=ce.locals::Uh c.fr:=by rw[Uh,rz,N.fr]
theorem Fc{j:Nat}{sv:S}(hno:vs.all (fun v=> !ZO v)=true)(e:(vs.map some++i8 k none)[j]?=some (some sv)):vs[j]?=some sv∧ZO sv=false:=by
 have h:vs[j]?=some sv:=by
  rw[List.getElem?_append] at e
  split at e
  ·rw[f9] at e
   exact(bk.mp e).elim fun a q=>by cases q.2;exact q.1
  ·rw[List.getElem?_replicate] at e
   split at e
   ·exact no (bh e)
   ·exact no e
 exact⟨h,(ia _).mp (az.mp hno sv (ig h))⟩
theorem vB(N:Sp sc ce s.heap h₁ lm cm)(hk:sc.kind= .function)(i:cP c ν st s)(hρ:∀a∈YW ρ',a∈YW c.ρ)(str:V1 c.w ν ρ' st s.heap)(ht:∀t v,S.tag t∈vs→O9 c.ρ t v→O9 ρ' t v)(rs:SS c ν s.heap vs cvs)(hno:vs.all (fun v=> !ZO v)=true)
  (hv:∀x j cv,nm.lookup x=some j→cvs[j]?=some cv→j<vs.length→Sx ce lm cm x=some cv):(c.deep ρ' ν ce nm r s.heap).I (c.deep ρ' ν ce nm r s.heap).νf (vs.map some++i8 k none) st {s with heap:=h₁,toks:=tk}:=by
 have fresh:∀a∈Rz ce++ce.locals::ν,a∈ν∨s.heap.get? a=none∧∃o,h₁.get? a=some o∧NF o:=fun a ha=>(jk.mp ha).elim (fun q=>(AK q).elim fun n e=> .inr ⟨N.nc n a e,(N.cell n a e).elim fun o w=>⟨o,w.1,fun vs q=>nomatch w.2.symm.trans q⟩⟩)
  fun q=>(ay.mp q).elim (fun q=> .inr (q▸⟨N.n,TZ N.ns⟩)) .inl
 have hν:∀{a},a∈ν→a∈Rz ce++ce.locals::ν:=fun h=>e7 _ (.tail _ h)
 have hout:∀{b o},s.heap.get? b=some o→b∉ν→b∉Rz ce++ce.locals::ν:=fun e hb q=>(fresh _ q).elim hb fun w=>Zj w.1 e rfl
 have inF:∀{a},a∈Uh (ce::c.fr)→a=ce.locals∨a∈Uh c.fr:=fun h=>ay.mp (WX (c:=c) N▸h)
 have newv:∀{a},s.heap.get? a=none→a∉ν:=fun e q=>i.ZE e q rfl
 refine⟨i.base,i.lim,i.seer,fun b o e=>N.kk b o (i.stays b o e),fun a ha=>(fresh a ha).elim (i.νB a) fun w=>none_of i.stays w.1,?_,(str.YC fun b o e hb=>hout e hb).keeps N.kk,⟨lm,cm,N.ns,fun n b e=> ?_,fun q=>newv N.n (i.volν _ (hρ _ q)),e7 _ (.head _),N.n,fun x j sv e1 e2=> ?_,fun x y j k sv sv' cv e1 e2 e3 e4 o1=>nomatch (Fc hno e3).2.symm.trans o1⟩,
  fun a h=>h,fun a h=>hν (i.volν a (hρ a h)),fun a h=>(inF h).elim (fun q=>q▸e7 _ (.head _)) fun q=>hν (i.frν a q),fun a h=>(inF h).elim (fun q=>q▸fun q=>newv N.n (i.volν _ (hρ _ q))) fun h q=>i.JS a h (hρ a q),fun a ha=>(fresh a ha).elim (fun ha=>(i.live a ha).elim fun o w=>⟨o,N.kk a o w.1,w.2⟩) fun w=>w.2,i.gens,fun _ h=>(nomatch h),fun _ h=>(nomatch h),.of_keeps N.kk,i.os,fun b o e _ _=>N.kk b o e⟩
 ·exact(TZ N.ns).elim fun o w=>⟨by rw[N.iY,hk];decide,⟨ce.locals,o,N.fr,none_of i.stays N.n,w.1,w.2⟩,Wq i.frames fun L' _ o ho hn=>⟨o,N.kk L' o ho,hn⟩⟩
 ·exact⟨N.cell n b e,fun q=>newv (N.nc n b e) (i.volν _ (hρ _ q)),fun q=>(inF q).elim (N.ne n b e) fun q=>newv (N.nc n b e) (i.frν _ q),fun _=>jo _ (AJ e),fun _=>N.nc n b e⟩
 ·have d:=Fc hno e2
  refine(rs.at d.1).elim fun v w=>⟨v,hv x j v e1 w.1 (mz.mp d.1).1,?_⟩
  cases sv with
  |d d=>exact DR.mono (fun b o e _ hb=>⟨N.kk b o e,hout e hb⟩) w.2
  |tag t=>exact ht t v (ig d.1) w.2
  |own l=>exact nomatch d.2
  |X4 l=>exact nomatch d.2
theorem La{h2:Heap}(N:Sp sc ce s.heap h₁ lm cm)(z:(c.deep c.ρ ν ce nm r s.heap).Ht s.heap h2):c.Ht s.heap h2:=
 ⟨fun b o e n v f=>z.keep b o e n v fun q=>(ay.mp (WX (c:=c) N▸q:b∈ce.locals::Uh c.fr)).elim (fun q=>Zj N.n e q.symm) f,z.VE,z.live,z.stays⟩
theorem Qq{ν':List Addr}{env':Ev}{st':St}(N:Sp sc ce s.heap h₁ lm cm)(i:c.I ν env st s)(i2:(c.deep c.ρ ν ce nm r s.heap).I ν' env' st' s'):c.Go s s':=
 ⟨La N i2.sin,i2.os.trans i.os.symm,i2.gens.trans i.gens.symm,fun b o e v f=>i2.al b o e v fun q=>(ay.mp (WX (c:=c) N▸q:b∈ce.locals::Uh c.fr)).elim (fun q=>Zj N.n e q.symm) f⟩
set_option backward.match.sparseCases true in
theorem AL{body:List Stmt}{p:PS}{Q:S→St→Prop}(N:Sp sc ce s.heap h₁ lm cm)(ok:c.Ok)(i:c.I ν env st s)(hS:Wv C (c.deep c.ρ ν ce nm r s.heap) body p)
  (i0:(c.deep c.ρ ν ce nm r s.heap).I (c.deep c.ρ ν ce nm r s.heap).νf (vs.map some++i8 k none) st {s with heap:=h₁,toks:=tk})
  (hq:wpS C p (vs.map some++i8 k none) st (fun _ st=>Q (.d .none) st) (fun d st=>Q (.d d) st) X) {R:ly→ai→Prop} (hR:∀cv s',Sa c ν env Q s cv s'→R (.ok (.ret cv)) s') (hE:∀ev s',c.RX X ev s'→R (.error ev) s'):
  Zh c.M (c.A.deeper ce) (execs body ce) (fun f s'=>R (.ok (.ret (match f with| .ret v=>v|_=> .none))) s') (fun e s'=>Zh c.M (c.A.deeper ce) (leaving ce e) (fun _ s''=>R (.error e) s'') (fun e' s''=>R (.error e') s'') s') {s with heap:=h₁,toks:=tk}:=by
 have sub:∀a∈ν,a∈Rz ce++ce.locals::ν:=fun a h=>e7 _ (.tail _ h)
 refine Zi (hS _ _ st _ _ X _ i0 hq) (fun fl s' hp=> ?_) fun ev s' x=> ?_
 ·cases fl with
  |next=>cases hp with|mk ν2 env2 st2 q2 i2=>exact hR _ _ ⟨.d .none,st2,q2,DR.none,i.go (Qq N i i2) (i2.str.YC fun b o eb hb hb'=>hb (i2.fν _ (sub b hb'))),Qq N i i2⟩
  |ret v=>cases hp with|mk d st2 env2 q2 r2 i2=>exact hR _ _ ⟨.d d,st2,q2,DR.shrink r2 sub,i.go (Qq N i i2) (i2.str.YC fun b o eb hb hb'=>hb (sub b hb')),Qq N i i2⟩
  |_=>exact False.elim hp
 ·cases x with|mk e k YY at_ st' od d fl a1 a2 a3 a4 a5 a6 a7 a8 a9 a10 a11 a12=>
  subst a1
  refine up (Ke (by
   show c.A.frames.map _=_
   rw[ok.frames]
   rfl) N.fr a8 a7 a3 a4 fun h' x' p' k'=>hE _ _ ⟨e,k,YY,at_,st',od,d,_,rfl,a2,x',.inr (.inl rfl),a5,(a6.XO p' i0.JR i0.JS).YC fun b o eb hb hb'=>hb (sub b (i.fν b hb')),k',(p'.S7 a8).2.2,i.sin.trans (La N (a9.XO p' k')),a10,a11,match i.VE with|⟨lm,cm,f⟩=>⟨lm,WL f.ns fun o ho hn=>(La N (a9.XO p' k')).VE _ _ ho hn f.SQ⟩⟩)
end
section
variable{C:Cx}{c:Cf}{ν:List Addr}{env:Ev}{st:St}{s s':ai}{X:Xp}{fd:jh}{nm:List (Str × Nat)}{r k:Nat}{vs:List S}{cvs:List aa}{names:List Str}
def Aep(P E:aa→ai→Prop)(r:ly)(s:ai):Prop:=match r with
 | .ok f=>(match f with| .ret v=>P v s|_=>False)
 | .error e=>E e s
structure Abr(sc:eg)(nm:List (Str × Nat))(names:List Str):Prop where
 nd:Ub names=true
 k:∀x∈names,sc.names.lookup x=some .local∨sc.names.lookup x=some .cell
 ix:SZ (nm.map (·.2))=true
 at_:∀p∈nm,p.2<names.length→names[p.2]?=some p.1
theorem iZ{sc:eg}(h:RK sc nm names=true):Abr sc nm names:=
 have h1:=both h
 have h2:=both h1.2
 have h3:=both h2.2
 ⟨h1.1,fun x m=>(jv.mp (az.mp h2.1 x m)).imp beq_iff_eq.mp beq_iff_eq.mp,h3.1,fun p m z=>(jv.mp (az.mp h3.2 p m)).elim (fun q=>(nomatch ((decide_eq_true z).symm.trans ((ia _).mp q)))) beq_iff_eq.mp⟩
theorem AM{ce:Env}(S:Abr ce.scope nm names)(hall:∀x,ce.scope.names.lookup x=some .cell→(ce.cells.lookup x).isSome=true)(hl:names.length=cvs.length){x:Str}{j:Nat}{cv:aa}(e:nm.lookup x=some j)(e2:cvs[j]?=some cv):
  Sx ce (bindL ce.kindOf (names.zip cvs) fun _=>none) (bindC ce.kindOf (names.zip cvs) fun _=>none) x=some cv:=by
 have hn:=S.at_ _ (Zq e) (hl▸(mz.mp e2).1)
 have hm:(x,cv)∈names.zip cvs:=ig (List.getElem?_zip_eq_some.mpr ⟨hn,e2⟩)
 have nd:((names.zip cvs).map (·.1)).Nodup:=by rw[WW hl.symm];exact WV S.nd
 refine(S.k x (ig hn)).elim (fun q=> ?_) fun q=> ?_
 ·have q:ce.kindOf x=some .local:=q
  unfold Sx
  rw[q]
  exact J5 q nd hm
 ·have q:ce.kindOf x=some .cell:=q
  obtain⟨b,hb⟩:=fk.mp (hall x q)
  rw[PL q,hb]
  exact AI (by rw[q];decide) nd hm
theorem AN{P:b7}{f:Addr}{o:Obj}{body:List Stmt}{h₁:Heap}{tk:Nat}{lm cm:Str→Option aa}(F:Yt P f fd o body names)(x:InCallC s s.heap.objs.size lm (A0d (s.heap.objs.size+1) fd.scope.names []) cm {s with heap:=h₁,toks:=tk})(kk:∀b o,s.heap.get? b=some o→h₁.get? b=some o):
  Sp fd.scope (callEnvC fd s.heap.objs.size f) s.heap h₁ lm cm:=
 ⟨rfl,rfl,F.gl,F.bl,kk,x.toInCall.ns,x.cell,Zs _,fun n b e=>l9 (rj (x.above n b (Zq e))),fun n b e q=>kj _ (q▸x.above n b (Zq e)),fun y z a e1 e2=>name_of_addr x.apart (Zq e1) (Zq e2),fun y e=>cellsFrom_some (.inr (Zq e))⟩
set_option backward.match.sparseCases true in
theorem Ul{f:Addr}{o:Obj}{body:List Stmt}{ρ':Ad}{P E:aa→ai→Prop}(F:Yt c.w.params f fd o body names)(S:RK fd.scope nm names=true)(p:cP c ν st s)(hr:c.r=r+1)(hρ:∀a∈YW ρ',a∈YW c.ρ)(str:V1 c.w ν ρ' st s.heap)(ht:∀t v,Mine.S.tag t∈vs→O9 c.ρ t v→O9 ρ' t v)
  (rs:SS c ν s.heap vs cvs) (hl:vs.length=names.length) (hno:vs.all (fun v=> !ZO v)=true)
  (hB:∀ce h₁ tk lm cm,Sp fd.scope ce s.heap h₁ lm cm→(c.deep ρ' ν ce nm r s.heap).Ok→(c.deep ρ' ν ce nm r s.heap).I (c.deep ρ' ν ce nm r s.heap).νf (vs.map some++i8 k none) st {s with heap:=h₁,toks:=tk}→
   Zh c.M (c.A.deeper ce) (execs body ce) (fun f s'=>P (match f with| .ret v=>v|_=> .none) s') (fun e s'=>Zh c.M (c.A.deeper ce) (leaving ce e) (fun _ s''=>E e s'') (fun e' s''=>E e' s'') s') {s with heap:=h₁,toks:=tk}):Zh c.M c.A (PySem.call (.ref f) cvs) P E s:=by
 have S:=iZ S
 have hlen:cvs.length=names.length:=rs.len.symm.trans hl
 refine XD (X8 (bq (ao (br _ _) (br _ _)) p.depth) (p.K _ _ F.look) F.data (p.lim.keeps p.stays) (A0D p.K F.code) F.body (kp_binds p.K fun S=>F.binds S cvs hlen) F.clo
  (fun x hx=>(S.k x.1 (WW hlen▸ku.mpr ⟨x,hx,rfl⟩)).imp id fun q=>⟨q,cellsFrom_some (.inr (Zq q))⟩) (fun s₁ x=> ?_) F.co F.gen F.kind)
 refine aj fun hn=> ?_
 obtain⟨h₁,tk,e,kk⟩:=x.done
 subst e
 have N:=AN F x kk
 exact hn (hB _ _ _ _ _ N (iW N p hr F.gen F.co F.kind S.ix) (vB N F.kind p hρ str ht rs hno fun y j cv e1 e2 _=>AM (ce:=callEnvC fd s.heap.objs.size f) S N.all hlen.symm e1 e2))
theorem ER{f:Addr}{o:Obj}{body:List Stmt}{p:PS}{Q:S→St→Prop}(F:Yt c.w.params f fd o body names)(S:RK fd.scope nm names=true)(ok:c.Ok)(hr:c.r=r+1)
  (i:c.I ν env st s) (rs:SS c ν s.heap vs cvs) (hl:vs.length=names.length) (hno:vs.all (fun v=> !ZO v)=true) (hS:∀c':Cf,c'.Ok→c'.wr=true→c'.ce.scope=fd.scope→c'.nm=nm→c'.r=r→c'.w=c.w→Wv C c' body p)
  (hq:wpS C p (vs.map some++i8 k none) st (fun _ st=>Q (.d .none) st) (fun d st=>Q (.d d) st) X):G9 c ν env (PySem.call (.ref f) cvs) Q X s:=
 Ul (k:=k) F S (i.pre ok) hr (fun _ h=>h) i.str (fun _ _ _ h=>h) rs hl hno fun ce h₁ tk lm cm N okd i0=>AL (R:=Aep (Sa c ν env Q s) (c.RX X)) N ok i (hS _ okd rfl N.iY rfl rfl rfl) i0 hq (fun cv s' h=>h) fun ev s' h=>h
end
abbrev NM:=List (Str × Nat)
noncomputable def Lb(x:Str):Bool:=x=="__debug__"||x=="__classdict__"
noncomputable def Xl(sc:eg)(nm:NM)(x:Str):Bool:=sc.names.lookup x==some .globalImplicit&&(!(x=="__debug__")&&(nm.lookup x).isNone)
noncomputable def Qs(x:Str):Option Nat:=[(("Elem":Str),0),("Data",1),("Import",2)].lookup x
noncomputable def J9(x:Str):Option Nat:=[(("Malformed":Str),0),("LeftOut",1)].lookup x
noncomputable def Ra(x:Str):Option Nat:=[(("FORMS":Str),0),("LOADS",1),("STORES",2)].lookup x
noncomputable def vF(x:Str):Option Nat:=(fu 13).find? fun n=>Yp n==x
noncomputable def vD(x:Str):Option Nat:=(fu 15).find? fun n=>Vq n==x
structure mT where
 f:Expr
 es:List Expr
 UA:List A0L
 p:Pos
noncomputable def Wz:Expr→Option mT
 | .Call f es UA p=>some ⟨f,es,UA,p⟩
 |_=>none
theorem Y0{e:Expr}{q:mT}(h:Wz e=some q):e= .Call q.f q.es q.UA q.p:=by cases e<;>first|exact no h|(cases h;rfl)
structure Fd where
 v:Expr
 m:Str
 p:Pos
noncomputable def Sq:Expr→Option Fd
 | .Attribute v m p=>some ⟨v,m,p⟩
 |_=>none
theorem Wy{e:Expr}{q:Fd}(h:Sq e=some q):e= .Attribute q.v q.m q.p:=by cases e<;>first|exact no h|(cases h;rfl)
noncomputable def XR:Expr→Option zo
 | .Constant k _ _=>some k
 |_=>none
theorem X9{e:Expr}{k:zo}(h:XR e=some k):∃n p,e= .Constant k n p:=by cases e<;>first|exact no h|(cases h;exact⟨_,_,rfl⟩)
noncomputable def PM:Expr→Option (List Expr)
 | .List es _=>some es
 |_=>none
theorem WY{e:Expr}{es:List Expr}(h:PM e=some es):∃p,e= .List es p:=by cases e<;>first|exact no h|(cases h;exact⟨_,rfl⟩)
noncomputable def jC:Expr→Option (List Expr)
 | .Tuple es _ _=>some es
 |_=>none
theorem Fe{e:Expr}{es:List Expr}(h:jC e=some es):∃k p,e= .Tuple es k p:=by cases e<;>first|exact no h|(cases h;exact⟨_,_,rfl⟩)
structure AO where
 lo:Option Expr
 hi:Option Expr
noncomputable def AQ:Expr→Option AO
 | .Slice lo hi none _=>some ⟨lo,hi⟩
 |_=>none
theorem ES{e:Expr}{q:AO}(h:AQ e=some q):∃p,e= .Slice q.lo q.hi none p:=by
 cases e with
 |Slice lo hi st p=>cases st with
  |none=>cases h;exact⟨_,rfl⟩
  |some _=>exact no h
 |_=>exact no h
noncomputable def vG:List m9→Option m9
 |[]=>none
 |g::r=>cond (r.isEmpty&&g.is_async==0) (some g) none
theorem Ff{l:List m9}{g:m9}(h:vG l=some g):l=[⟨g.target,g.iter,g.ifs,0⟩]:=by
 cases l with
 |nil=>exact no h
 |cons a r=>
  have q:=Zy h
  cases a with|mk t i f k=>
  cases (beq_iff_eq.mp (both q.1).2:k=0)
  cases b6.mp (both q.1).1
  cases q.2
  rfl
structure LcV where
 elt:Expr
 gens:List m9
 sc:eg
noncomputable def lcV:Expr→Option LcV
 | .ListComp elt gens sc _=>some ⟨elt,gens,sc⟩
 |_=>none
theorem vE{e:Expr}{q:LcV}(h:lcV e=some q):∃p,e= .ListComp q.elt q.gens q.sc p:=by cases e<;>first|exact no h|(cases h;exact⟨_,rfl⟩)
noncomputable def AP(e:Expr):Bool:=(Wz e).isNone
noncomputable def isStr(x:Str):zo→Bool
 | .str y=>y==x
 |_=>false
noncomputable def isInt(i:Int):zo→Bool
 | .int j=>j==i
 |_=>false
noncomputable def J6(sc:eg)(nm:NM)(e:Expr):Option Nat:=(nameOf e).bind fun x=>cond (Xl sc nm x) (Ra x) none
structure J8 where
 ks:List (Option Expr)
 vs:List Expr
noncomputable def J7:Expr→Option J8
 | .Dict ks vs _=>some ⟨ks,vs⟩
 |_=>none
noncomputable def NC:List Str:=["PASSIVE","ACTIVE","DECLARED"]
noncomputable def isName(x:Str)(e:Expr):Bool:=(nameOf e).any (· ==x)
noncomputable def intOf:zo→Option Int
 | .int i=>some i
 |_=>none
noncomputable def Ss(sc:eg)(nm:NM)(q:J8):Bool:=
 q.ks.map (fun o=>o.bind nameOf)==NC.map some&&(q.vs.map (fun e=>(XR e).bind intOf)==[some 1,some 2,some 3]&&NC.all (Xl sc nm))
noncomputable def RA(x:Str)(sc:eg)(nm:NM)(e:Expr):Option (List Expr):=(Wz e).bind fun q=>cond (isName x q.f&&(Xl sc nm x&&(q.UA.isEmpty&&noStar q.es))) (some q.es) none
noncomputable def AR(sc:eg)(nm:NM)(e:Expr):Option Nat:=(J6 sc nm e).elim (cond ((J7 e).any (Ss sc nm)) (some 3) (cond ((RA "_law_texts" sc nm e).any ze) (some 4) none)) some
noncomputable def Fg(sc:eg)(nm:NM)(x:Str):PE:=(nm.lookup x).elim (cond (Xl sc nm x) ((GT.lookup x).elim .bad .lit) .bad) fun i=>cond (Lb x) .bad (.var i)
noncomputable def vC:D→Option Nat
 | .fn f=>some f
 |_=>none
noncomputable def mU(sc:eg)(nm:NM)(x:Str)(a:PE):PE:=(nm.lookup x).elim
 (cond (Xl sc nm x) ((GT.lookup x).elim ((VP.lookup x).elim ((Qs x).elim .bad fun k=> .inst k a) fun b=>cond (b==10) .bad (.blt b a)) fun d=>(vC d).elim .bad fun g=> .call g a) .bad) fun i=>cond (Lb x) .bad (.Gd i a)
noncomputable def mV(nm:NM)(q:Fd)(es:List Expr)(a:PE):PE:=(nameOf q.v).elim (cond ((XR q.v).any (isStr "")&&(q.m=="join"&&es.length==1)) (.blt 10 a) .bad) fun x=>
 (nm.lookup x).elim .bad fun i=>(vD q.m).elim .bad fun k=>cond (Lb x|| !jd es.length 30) .bad (.Zv i k a)
noncomputable def callC(sc:eg)(nm:NM)(f:Expr)(es:List Expr)(UA:List A0L)(pos:Pos)(a:PE):PE:=cond (UA.isEmpty&&noStar es)
 ((nameOf f).elim ((Sq f).elim .bad fun q=>cond (q.p.endLine==pos.line) (mV nm q es a) .bad) fun x=>mU sc nm x a) .bad
noncomputable def mY(sc:eg)(nm:NM)(f:Expr)(es:List Expr)(UA:List A0L)(a:PE):PE:=cond (UA.isEmpty&&noStar es)
 ((nameOf f).elim .bad fun x=>cond (Xl sc nm x) (((GT.lookup x).bind vC).elim .bad fun g=> .call g a) .bad) .bad
noncomputable def jA(nm:NM):Nat:=nm.foldl (fun m p=>max m (p.2+1)) 0
noncomputable def Uc(e:Expr):List Str:=(nameOf e).elim ((jC e).elim [] namesOf) fun x=>[x]
structure mW where
 nm:NM
 is:List Nat
noncomputable def Lc(nm:NM)(scope:eg)(t:Expr):mW:=
 let is:=(fu (Uc t).length).map (· +jA nm)
 ⟨(Uc t).zip is++scope.names.filterMap (fun p=>cond (p.2== .free) ((nm.lookup p.1).map fun i=>(p.1,i)) none),is⟩
structure Tr where
 E:eg→NM→Expr→PE
 T:eg→NM→Expr→PE
noncomputable def NB(E:Expr→PE):List Expr→PE
 |[]=> .nil
 |e::r=>cond (isStar e) .bad (.cons (E e) (NB E r))
noncomputable def trO(E:Expr→PE):Option Expr→PE
 |none=> .nil
 |some e=> .cons (E e) .nil
noncomputable def Aev:BoolOp→PE→PE→PE
 | .And,a,b=> .and a b
 | .Or,a,b=> .or a b
noncomputable def trB(E:Expr→PE)(op:BoolOp):List Expr→PE
 |[]=> .bad
 |e::r=>cond r.isEmpty (E e) (Aev op (E e) (trB E op r))
noncomputable def trI(E:Expr→PE)(sc:eg)(nm:NM)(e:Expr):PE:=(RA "range" sc nm e).elim (.cons (E e) .nil) fun es=> .blt 1 (NB E es)
noncomputable def trC(T:Expr→PE):List Expr→PE
 |[]=> .nil
 |e::r=>cond r.isEmpty (.cons (T e) .nil) .bad
noncomputable def mZ(t:Tr)(sc:eg)(nm:NM)(elt:Expr)(scope:eg)(g:m9)(n:mW):PE:= .comp (t.E (MX scope sc) n.nm elt) n.is (trI (t.E sc nm) sc nm g.iter) (trC (t.T (MX scope sc) n.nm) g.ifs)
noncomputable def mX(sc:eg)(nm:NM)(scope:eg)(g:m9):Bool:=MY sc nm scope (Lc nm scope g.target).nm g.target (Lc nm scope g.target).is&&OF g.iter
noncomputable def inV(sc:eg)(nm:NM)(r:Expr):qw→Option Nat
 | .In=>J6 sc nm r
 |_=>none
noncomputable def Aes(E:Expr→PE)(sc:eg)(nm:NM)(l:Expr)(op:qw)(r:Expr):PE:=(inV sc nm r op).elim (cond (uw op r) .bad (.cmp op (E l) (E r))) fun k=> .Uq k (E l)
noncomputable def Abu(E:Expr→PE)(l:Expr)(op o2:qw)(r r2:Expr):PE:=cond (A0b [op,o2] [r,r2]) .bad (.S6 op o2 (E l) (E r) (E r2))
noncomputable def jB(E:Expr→PE)(sc:eg)(nm:NM)(l:Expr)(ops:List qw)(rs:List Expr):PE:=match ops with
 |[]=> .bad
 |op::ops=>match rs with
  |[]=> .bad
  |r::rs=>match ops with
   |[]=>cond rs.isEmpty (Aes E sc nm l op r) .bad
   |o2::ops=>match rs with
    |[]=> .bad
    |r2::rs=>cond (ops.isEmpty&&rs.isEmpty) (Abu E l op o2 r r2) .bad
noncomputable def Aet(p:PE):UnaryOp→PE
 | .USub=> .neg p
 |_=> .bad
noncomputable def Aeq(p:PE):UnaryOp→PE
 | .Not=> .not p
 |_=> .bad
noncomputable def Abv(E:Expr→PE)(sc:eg)(nm:NM)(v s:Expr):PE:=(AQ s).elim (cond (isSlice s) .bad ((AR sc nm v).elim (.sub (E v) (E s)) fun k=> .XF k (E s))) fun q=> .lV (E v) (trO E q.lo) (trO E q.hi)
noncomputable def stE(t:Tr)(sc:eg)(nm:NM)(e:Expr):PE:=match e with
 | .Constant k _ _=>(B6 k).elim .bad .lit
 | .Name x _=>Fg sc nm x
 | .BinOp l op r _=> .bin op (t.E sc nm l) (t.E sc nm r)
 | .UnaryOp op x _=>Aet (t.E sc nm x) op
 | .BoolOp op es _=>trB (t.E sc nm) op es
 | .Compare l ops rs _=>jB (t.E sc nm) sc nm l ops rs
 | .IfExp b x y _=> .ite (t.T sc nm b) (t.E sc nm x) (t.E sc nm y)
 | .Tuple es _ _=> .tup (NB (t.E sc nm) es)
 | .List es _=> .lst (NB (t.E sc nm) es)
 | .Attribute v x _=>cond (AP v) ((vF x).elim .bad fun k=> .attr (t.E sc nm v) k) .bad
 | .Subscript v s _=>Abv (t.E sc nm) sc nm v s
 | .Call f es UA pos=>callC sc nm f es UA pos (NB (t.E sc nm) es)
 | .ListComp elt gens scope _=>(vG gens).elim .bad fun g=>cond (mX sc nm scope g) (mZ t sc nm elt scope g (Lc nm scope g.target)) .bad
 |_=> .bad
noncomputable def stT(t:Tr)(sc:eg)(nm:NM)(e:Expr):PE:=match e with
 | .UnaryOp op x _=>Aeq (t.T sc nm x) op
 | .BoolOp op es _=>trB (t.T sc nm) op es
 | .Compare l ops rs _=>jB (t.E sc nm) sc nm l ops rs
 | .Constant k _ _=>(B6 k).elim .bad .lit
 | .Name x _=>Fg sc nm x
 | .BinOp l op r _=> .bin op (t.E sc nm l) (t.E sc nm r)
 | .Call f es UA _=>mY sc nm f es UA (NB (t.E sc nm) es)
 |_=> .bad
noncomputable def tr:Nat→Tr
 |0=>⟨fun _ _ _=> .bad,fun _ _ _=> .bad⟩
 |n+1=>⟨stE (tr n),stT (tr n)⟩
structure Hyp(C:Cx)(r:Nat):Prop where
 calls:XA C r
 inst:∀(c:Cf) ν,c.Ok→c.r=r→∀x p pos es k a,Xl c.ce.scope c.nm x=true→Qs x=some k→noStar es=true→YD C c ν es a→ZL C c ν (.Call (.Name x p) es [] pos) (.inst k a)
 sub:∀(c:Cf) ν,c.Ok→c.r=r→∀v s pos k a,AR c.ce.scope c.nm v=some k→isSlice s=false→ZL C c ν s a→ZL C c ν (.Subscript v s pos) (.XF k a)
 inE:∀(c:Cf) ν,c.Ok→c.r=r→∀l r pos k a,J6 c.ce.scope c.nm r=some k→ZL C c ν l a→ZL C c ν (.Compare l [.In] [r] pos) (.Uq k a)∧YK C c ν (.Compare l [.In] [r] pos) (.Uq k a)
section
variable{C:Cx}{c:Cf}{ν:List Addr}{e:Expr}{p p':PE}{b:Bool}{α:Type}{o:Option α}{f:α→PE}
theorem ZL.bad:ZL C c ν e .bad:=fun env st Q X s i hq=>False.elim hq
theorem ZL.gd(h:b=true→ZL C c ν e p):ZL C c ν e (cond b p .bad):=by cases b;exact .bad;exact h rfl
theorem ZL.ng(h:b=false→ZL C c ν e p):ZL C c ν e (cond b .bad p):=by cases b;exact h rfl;exact .bad
theorem ZL.opt(h:∀a,o=some a→ZL C c ν e (f a)):ZL C c ν e (o.elim .bad f):=by cases o;exact .bad;exact h _ rfl
theorem ZL.alt(h0:o=none→ZL C c ν e p)(h:∀a,o=some a→ZL C c ν e (f a)):ZL C c ν e (o.elim p f):=by cases o;exact h0 rfl;exact h _ rfl
theorem YK.bad:YK C c ν e .bad:=fun env st Q X s i hq=>False.elim hq
theorem YK.gd(h:b=true→YK C c ν e p):YK C c ν e (cond b p .bad):=by cases b;exact .bad;exact h rfl
theorem YK.ng(h:b=false→YK C c ν e p):YK C c ν e (cond b .bad p):=by cases b;exact h rfl;exact .bad
theorem YK.opt(h:∀a,o=some a→YK C c ν e (f a)):YK C c ν e (o.elim .bad f):=by cases o;exact .bad;exact h _ rfl
theorem YK.alt(h0:o=none→YK C c ν e p)(h:∀a,o=some a→YK C c ν e (f a)):YK C c ν e (o.elim p f):=by cases o;exact h0 rfl;exact h _ rfl
abbrev jE(C:Cx)(c:Cf)(ν:List Addr)(e:Expr)(p q:PE):Prop:=ZL C c ν e p∧YK C c ν e q
structure GI(c:Cf)(x:Str):Prop where
 k:c.ce.kindOf x=some .globalImplicit
 d:(x==("__debug__":Str))=false
 n:c.nm.lookup x=none
theorem Yd{x:Str}(h:Xl c.ce.scope c.nm x=true):GI c x:=⟨beq_iff_eq.mp (both h).1,(ia _).mp (both (both h).2).1,gm.mp (both (both h).2).2⟩
structure Dn(x:Str):Prop where
 d:(x==("__debug__":Str))=false
 c:(x==("__classdict__":Str))=false
theorem AX{a b:Bool}(h:(a||b)=false):a=false∧b=false:=by cases a;exact⟨rfl,h⟩;exact nomatch h
theorem YM{x:Str}(h:Lb x=false):Dn x:=⟨(AX h).1,(AX h).2⟩
theorem PO{d:D}{f:Nat}(h:vC d=some f):d= .fn f:=by cases d<;>first|exact no h|(cases h;rfl)
theorem jD(P:b7):GT.all (fun p=>(vC p.2).all (Sf (KF P)))=true:=by kernel_rfl
theorem AV{P:b7}{x:Str}{f:Nat}(h:GT.lookup x=some (.fn f)):Sf (KF P) f=true:=az.mp (jD P) _ (Zq h)
theorem Rb(h:AP e=true)(env:Env)(whole:Sem aa)(nm:Str):uz e nm env whole=whole:=by
 cases e<;>first|rfl|exact nomatch h
theorem Fi{f:Nat→Str}{x:Str}{k n:Nat}(h:(fu n).find? (fun n=>f n==x)=some k):f k=x:=beq_iff_eq.mp (List.find?_some (p:=fun n=>f n==x) h)
theorem JB{x:Str}{pos:Pos}(ok:c.Ok):jE C c ν (.Name x pos) (Fg c.ce.scope c.nm x) (Fg c.ce.scope c.nm x):=
 ⟨.alt (fun _=> .gd fun g=> .opt fun d hd=>Je ok (Yd g).k (Yd g).d (Zq hd)) fun i hi=> .ng fun h=>SV ok hi (YM h).d (YM h).c,
  .alt (fun _=> .gd fun g=> .opt fun d hd=>VO (fun _ _=>rfl) (Je ok (Yd g).k (Yd g).d (Zq hd)) fun _ _ _ _ h=>h) fun i hi=> .ng fun h=>VO (fun _ _=>rfl) (SV ok hi (YM h).d (YM h).c) fun _ _ _ _ h=>h⟩
variable{r:Nat}{es:List Expr}{UA:List A0L}{pos:Pos}{a:PE}{g:Expr}
theorem AW{x:Str}{pp:Pos}(H:Hyp C r)(ok:c.Ok)(hr:c.r=r)(hn:noStar es=true)(h1:YD C c ν es a):ZL C c ν (.Call (.Name x pp) es [] pos) (mU c.ce.scope c.nm x a):=
 .alt (fun _=> .gd fun g=>have gi:=Yd g;.alt (fun _=> .alt (fun _=> .opt fun k hk=>H.inst c ν ok hr x pp pos es k a g hk hn h1) fun b hb=> .ng fun L9=>Jk ok hn gi.k gi.d (Zq hb) (fun q=>ff (L9.symm.trans (beq_iff_eq.mpr q))) h1)
  fun d hd=> .opt fun f hf=>Nt ok (hr▸H.calls) hn (AV (PO hf▸hd)) gi.k gi.d (Zq (PO hf▸hd)) h1) fun i hi=> .ng fun h=>E7 ok (hr▸H.calls) hn hi (YM h).d (YM h).c h1
theorem JA{x:Str}{k:zo}(h:isStr x k=true):k= .str x:=by
 cases k with
 |str y=>exact congrArg _ (beq_iff_eq.mp h)
 |_=>exact nomatch h
theorem Ld{l:List Expr}(h:(l.length==1)=true):∃e,l=[e]:=m8.mp (beq_iff_eq.mp h)
theorem AY{q:Fd}(H:Hyp C r)(ok:c.Ok)(hr:c.r=r)(hn:noStar es=true)(hp:(q.p.endLine==pos.line)=true)(h1:YD C c ν es a):ZL C c ν (.Call (.Attribute q.v q.m q.p) es [] pos) (mV c.nm q es a):=by
 obtain⟨v,m,ap⟩:=q
 refine .alt (fun _=> .gd fun h=> ?_) fun x hx=> .opt fun i hi=> .opt fun k hk=> .ng fun h=> ?_
 ·obtain⟨kk,e,q⟩:=Zg (both h).1
  obtain⟨n,cp,e⟩:=X9 e
  cases JA q
  obtain⟨e1,e2⟩:=Ld (both (both h).2).2
  subst e2
  have e:v=_:=e
  have em:m="join":=beq_iff_eq.mp (both (both h).2).1
  subst e em
  exact Ae ok hn (beq_iff_eq.mp hp) h1
 ·obtain⟨p,e⟩:=ZC hx
  have e:v=_:=e
  have em:Vq k=m:=Fi hk
  subst e em
  have h:=AX h
  exact BP ok (hr▸H.calls) hn (cw (by
   cases hb:jd es.length 30 with
   |true=>exact hb
   |false=>exact nomatch (congrArg (!·) hb).symm.trans h.2)) hi (YM h.1).d (YM h.1).c (beq_iff_eq.mp hp) h1
theorem AU(H:Hyp C r)(ok:c.Ok)(hr:c.r=r)(h1:YD C c ν es a):ZL C c ν (.Call g es UA pos) (callC c.ce.scope c.nm g es UA pos a):= .gd fun h=>by
 cases b6.mp (both h).1
 exact .alt (fun _=> .opt fun q hq=> .gd fun hp=>Wy hq▸AY H ok hr (both h).2 hp h1) fun x hx=>(ZC hx).elim fun p e=>e▸AW H ok hr (both h).2 h1
theorem AS(H:Hyp C r)(ok:c.Ok)(hr:c.r=r)(h1:YD C c ν es a):YK C c ν (.Call g es UA pos) (mY c.ce.scope c.nm g es UA a):= .gd fun h=>by
 cases b6.mp (both h).1
 exact .opt fun x hx=> .gd fun gi=> .opt fun f hf=>(ZC hx).elim fun p e=>(av.mp hf).elim fun d hd=>by
  subst e
  exact VO (fun _ _=>rfl) (Nt ok (hr▸H.calls) (both h).2 (AV (PO hd.2▸hd.1)) (Yd gi).k (Yd gi).d (Zq (PO hd.2▸hd.1)) h1) fun _ _ _ _ h=>h
end
def OI(C:Cx)(r:Nat)(t:Tr):Prop:=∀(c:Cf) ν e,c.Ok→c.r=r→jE C c ν e (t.E c.ce.scope c.nm e) (t.T c.ce.scope c.nm e)
section
variable{C:Cx}{c:Cf}{ν:List Addr}{e:Expr}{es:List Expr}{E T:Expr→PE}{r:Nat}{t:Tr}{pos:Pos}
theorem XS(h:∀e,ZL C c ν e (E e)):YD C c ν es (NB E es):=by
 induction es with
 |nil=>exact Wu
 |cons e es ih=>
  show YD C c ν (e::es) (cond (isStar e) .bad (.cons (E e) (NB E es)))
  cases hs:isStar e with
  |true=>exact fun pos env st Q X s i hq=>False.elim hq
  |false=>exact Wd (fun env=>Yq hs) (h e) ih
theorem aA(h:∀e,ZL C c ν e (E e)){o:Option Expr}:Ag C c ν o (trO E o):=by
 cases o with
 |none=>exact EC
 |some e=>exact EE (h e)
theorem vK(h:∀e,ZL C c ν e (E e)){op:BoolOp}:IX C c ν op es (trB E op es):=by
 induction es with
 |nil=>exact fun pos env st Q X s i hq=>False.elim hq
 |cons e es ih=>cases es with
  |nil=>exact B5 (h e)
  |cons e' es=>cases op with
   |And=>exact B3 (h e) ih
   |Or=>exact gR (h e) ih
theorem jG(h:∀e,YK C c ν e (E e)){op:BoolOp}:Po C c ν op es (trB E op es):=by
 induction es with
 |nil=>exact fun env st Q X s i hq=>False.elim hq
 |cons e es ih=>cases es with
  |nil=>exact E5 (h e)
  |cons e' es=>cases op with
   |And=>exact E3 (h e) ih
   |Or=>exact B4 (h e) ih
inductive AZ(c:Cf)(x:Str)(e:Expr)(l:List Expr):Prop
 |mk (p pos:Pos) (e:e= .Call (.Name x p) l [] pos) (g:GI c x) (n:noStar l=true)
theorem Su{x:Str}{l:List Expr}(h:RA x c.ce.scope c.nm e=some l):AZ c x e l:=
 (av.mp h).elim fun q h=>by
  have k:=Zy h.2
  obtain⟨y,ex,hx⟩:=Zg (both k.1).1
  obtain⟨p,ep⟩:=ZC ex
  cases beq_iff_eq.mp hx
  have e1:=Y0 h.1
  obtain⟨f,l',UA,pos⟩:=q
  cases ep
  cases b6.mp (both (both (both k.1).2).2).1
  cases k.2
  exact⟨p,pos,e1,Yd (both (both k.1).2).1,(both (both (both k.1).2).2).2⟩
theorem Le(ok:c.Ok)(h:∀e,ZL C c ν e (E e)):MW C c ν e (trI E c.ce.scope c.nm e):=by
 show MW C c ν e ((RA "range" c.ce.scope c.nm e).elim _ _)
 cases q:RA "range" c.ce.scope c.nm e with
 |none=>exact A7 (h e)
 |some l=>
  obtain⟨p,pos,e1,g,hn⟩:=Su q
  exact e1▸Hx ok hn g.k (XS h)
theorem vI(h:∀e,YK C c ν e (T e)):Wx C c ν es (trC T es):=by
 cases es with
 |nil=>exact .nil
 |cons e r=>cases r with
  |nil=>exact .one (h e)
  |cons _ _=>exact .bad
theorem JC{elt:Expr}{scope:eg}{nm':NM}(h:OI C r t)(hr:c.r=r):U9 C c scope nm' fun c' ν'=>ZL C c' ν' elt (t.E (MX scope c.ce.scope) nm' elt):=fun c' ν' ok' e1 e2 e3 _=>e1▸e2▸(h c' ν' elt ok' (e3.trans hr)).1
theorem JD{ifs:List Expr}{scope:eg}{nm':NM}(h:OI C r t)(hr:c.r=r):U9 C c scope nm' fun c' ν'=>Wx C c' ν' ifs (trC (t.T (MX scope c.ce.scope) nm') ifs):=fun c' ν' ok' e1 e2 e3 _=>e1▸e2▸vI fun e=>(h c' ν' e ok' (e3.trans hr)).2
theorem Lf{sc:eg}{nm:NM}{op:qw}{k:Nat}{r:Expr}(h:inV sc nm r op=some k):op= .In∧J6 sc nm r=some k:=by
 cases op with
 |In=>exact⟨rfl,h⟩
 |_=>exact no h
theorem Fl{l:Expr}{ops:List qw}{rs:List Expr}(H:Hyp C r)(ok:c.Ok)(hr:c.r=r)(h:∀e,ZL C c ν e (E e)):jE C c ν (.Compare l ops rs pos) (jB E c.ce.scope c.nm l ops rs) (jB E c.ce.scope c.nm l ops rs):=by
 match ops,rs with
 |[],_=>exact⟨.bad,.bad⟩
 |_::_,[]=>exact⟨.bad,.bad⟩
 |[op],[b]=>exact⟨.alt (fun _=> .ng fun m=>gT ok m (h _) (h _)) fun k hk=>(Lf hk).1▸(H.inE c ν ok hr _ _ _ _ _ (Lf hk).2 (h _)).1,.alt (fun _=> .ng fun m=>B7 ok m (h _) (h _)) fun k hk=>(Lf hk).1▸(H.inE c ν ok hr _ _ _ _ _ (Lf hk).2 (h _)).2⟩
 |[op],b::_::_=>exact⟨.bad,.bad⟩
 |_::_::_,[_]=>exact⟨.bad,.bad⟩
 |[o1,o2],[b1,b2]=>exact⟨.ng fun m=>Bw ok m (h _) (h _) (h _),.ng fun m=>E6 ok m (h _) (h _) (h _)⟩
 |[_,_],_::_::_::_=>exact⟨.bad,.bad⟩
 |_::_::_::_,_::_::_=>exact⟨.bad,.bad⟩
theorem jF{v s:Expr}(H:Hyp C r)(ok:c.Ok)(hr:c.r=r)(h:∀e,ZL C c ν e (E e)):ZL C c ν (.Subscript v s pos) (Abv E c.ce.scope c.nm v s):=
 .alt (fun _=> .ng fun hs=> .alt (fun _=>gX hs (h _) (h _)) fun k hk=>H.sub c ν ok hr _ _ _ _ _ hk hs (h _)) fun q hq=>(ES hq).elim fun p e=>e▸iF (h _) (aA h) (aA h)
theorem vH(H:Hyp C r)(ih:OI C r t)(ok:c.Ok)(hr:c.r=r):ZL C c ν e (stE t c.ce.scope c.nm e):=by
 have E:=fun e=>(ih c ν e ok hr).1
 have T:=fun e=>(ih c ν e ok hr).2
 cases e with
 |Constant k n p=>exact .opt fun d h=>KZ h
 |Name x p=>exact(JB ok).1
 |BinOp l op r p=>exact GO ok (E _) (E _)
 |UnaryOp op x p=>cases op with
  |USub=>exact gS ok (E _)
  |_=>exact .bad
 |BoolOp op es p=>exact Bv (vK E)
 |Compare l ops rs p=>exact(Fl H ok hr E).1
 |IfExp b x y p=>exact ite_snd (T _) (E _) (E _)
 |Tuple es k p=>exact gQ (XS E)
 |List es p=>exact gU (XS E)
 |Attribute v x p=>exact .gd fun h=> .opt fun k hk=>BC (fun env whole=>Rb h env whole x) (Fi hk) (E _)
 |Subscript v s p=>exact jF H ok hr E
 |Call f es UA p=>exact AU H ok hr (XS E)
 |ListComp elt gens scope p=>exact .opt fun g hg=> .gd fun h=>Ff hg▸J4 ok (both h).1 (both h).2 (Le ok E) (JC ih hr) (JD ih hr)
 |_=>exact .bad
theorem vJ(H:Hyp C r)(ih:OI C r t)(ok:c.Ok)(hr:c.r=r):YK C c ν e (stT t c.ce.scope c.nm e):=by
 have E:=fun e=>(ih c ν e ok hr).1
 have T:=fun e=>(ih c ν e ok hr).2
 cases e with
 |Constant k n p=>exact .opt fun d h=>VO (fun _ _=>rfl) (KZ h) fun _ _ _ _ h=>h
 |Name x p=>exact(JB ok).2
 |BinOp l op r p=>exact VO (fun _ _=>rfl) (GO ok (E _) (E _)) fun _ _ _ _ h=>h
 |UnaryOp op x p=>cases op with
  |Not=>exact B8 (T _)
  |_=>exact .bad
 |BoolOp op es p=>exact E4 (jG T)
 |Compare l ops rs p=>exact(Fl H ok hr E).2
 |Call f es UA p=>exact AS H ok hr (XS E)
 |_=>exact .bad
theorem Fj(H:Hyp C r)(n:Nat):OI C r (tr n):=by
 induction n with
 |zero=>exact fun c ν e ok hr=>⟨.bad,.bad⟩
 |succ n ih=>exact fun c ν e ok hr=>⟨vH H ih ok hr,vJ H ih ok hr⟩
end
noncomputable def isConst(e:Expr):Bool:=(XR e).isSome
noncomputable def aB(e:Expr):Bool:=(Wz e).any fun q=>isName "bytes" q.f||(Sq q.f).any fun a=>isConst a.v
noncomputable def vM(m:Str):Bool:=m=="append"||m=="extend"||m=="pop"
structure H6 where
 x:Str
 m:Str
 es:List Expr
 ap:Pos
 cp:Pos
noncomputable def Fo(v:Expr→Option Str)(e:Expr):Option H6:=(Wz e).bind fun q=>(Sq q.f).bind fun a=>(v a.v).bind fun x=>cond q.UA.isEmpty (some ⟨x,a.m,q.es,a.p,q.p⟩) none
theorem JE{v:Expr→Option Str}{e:Expr}{q:H6}(h:Fo v e=some q):∃b,e= .Call (.Attribute b q.m q.ap) q.es [] q.cp∧v b=some q.x:=
 (av.mp h).elim fun c h=>(av.mp h.2).elim fun a h2=>(av.mp h2.2).elim fun x h3=>by
  have k:=Zy h3.2
  have e1:=Y0 h.1
  rw[Wy h2.1,b6.mp k.1] at e1
  cases k.2
  exact⟨a.v,e1,h3.1⟩
noncomputable def Aby(e:Expr):Option Str:=(Sq e).bind fun a=>cond (a.m=="octets") (nameOf a.v) none
theorem jH{e:Expr}{x:Str}(h:Aby e=some x):∃p ap,e= .Attribute (.Name x p) "octets" ap:=
 (av.mp h).elim fun a h=>by
  have k:=Zy h.2
  obtain⟨p,ep⟩:=ZC k.2
  have e1:=Wy h.1
  rw[ep,(beq_iff_eq.mp k.1:a.m="octets")] at e1
  exact⟨p,_,e1⟩
noncomputable def Aew(own:List Str)(e:Expr):Option H6:=(Fo nameOf e).bind fun q=>cond (own.contains q.x) (some q) none
noncomputable def Aex(s:Stmt):List Str:=match s with
 | .Expr e _=>(Fo nameOf e).elim [] fun q=>cond (vM q.m) [q.x] []
 |_=>[]
noncomputable def nB(s:Stmt):List (List Stmt):=match s with
 | .If _ b o _=>[b,o]
 | .While _ b _ _=>[b]
 | .For _ _ b _ _=>[b]
 |_=>[]
noncomputable def ownNames:Nat→List Stmt→List Str
 |0,_=>[]
 |n+1,l=>l.flatMap fun s=>Aex s++(nB s).flatMap (ownNames n)
section
variable(t:Expr→PE)(tT:Expr→PE)(T:Tr)(sc:eg)(nm:NM)(own:List Str)
noncomputable def Ab1(q:H6):PS:=(nm.lookup q.x).elim .bad fun j=>cond (Xk true sc nm q.x j&&(!Lb q.x&&q.ap.endLine==q.cp.line)) (match q.es with
 |[]=>cond (q.m=="pop") (.RU j) .bad
 |a::r=>cond (r.isEmpty&& !isStar a) (cond (q.m=="append") (.app j (t a)) (cond (q.m=="extend") (.ext j (t a)) .bad)) .bad) .bad
noncomputable def nE(q:H6):PS:=(nm.lookup q.x).elim .bad fun j=>cond (!Lb q.x&&q.ap.endLine==q.cp.line) (match q.es with
 |[]=> .bad
 |a::r=>cond (r.isEmpty&& !isStar a) (cond (q.m=="append") (.W3 j (t a)) (cond (q.m=="extend") (.Tq j (t a)) .bad)) .bad) .bad
noncomputable def exP(e:Expr):PS:=(Aew own e).elim ((Fo Aby e).elim (cond (YR e) .bad (.ex (t e))) (nE t nm)) (Ab1 t sc nm)
noncomputable def vL(i:Nat)(v:Expr):PS:=(lcV v).elim (cond (YR v) .bad (.set i (t v))) fun q=>(vG q.gens).elim .bad fun g=>cond (mX sc nm q.sc g) (.set i (mZ T sc nm q.elt q.sc g (Lc nm q.sc g.target))) .bad
noncomputable def Ab2(v:Expr):Option Expr:=(RA "list" sc nm v).bind fun l=>cond (l.length==1) l.head? none
noncomputable def nA(v:Expr):Bool:=(RA "bytearray" sc nm v).any ze
noncomputable def Abw(i:Nat)(v:Expr):PS:=(PM v).elim ((Ab2 sc nm v).elim (cond (nA sc nm v) (.RO i) (vL t T sc nm i v)) fun e=> .RT i (t e)) fun es=> .UI i (NB t es)
noncomputable def Ab0(ts vs:List Expr)(is:List Nat):PS:=match is with
 |[]=> .bad
 |i::is'=>match is' with
  |[]=> .bad
  |j::is2=>match vs with
   |[]=> .bad
   |a::vs'=>match vs' with
    |[]=> .bad
    |b::vs2=>cond (is2.isEmpty&&vs2.isEmpty) ((PM a).elim (.VH [i,j] (NB t [a,b])) fun es=>(PM b).elim (cond ((namesOf ts).any own.contains&& !isStar b) (.Gb i j (NB t es) (t b)) (.VH [i,j] (NB t [a,b]))) fun es'=>
      cond ((namesOf ts).all own.contains) (.HZ i j (NB t es) (NB t es')) (.VH [i,j] (NB t [a,b]))) (.VH is (NB t vs))
noncomputable def slots(ts:List Expr):List Nat:=(namesOf ts).filterMap fun x=>nm.lookup x
noncomputable def Abx(s:Expr):Bool:=(XR s).any (isInt 0)
noncomputable def asP(g v:Expr):PS:=match g with
 | .Name x _=>(nm.lookup x).elim .bad fun i=>cond (Xk true sc nm x i) (cond (own.contains x) (Abw t T sc nm i v) (vL t T sc nm i v)) .bad
 | .Tuple ts _ _=>(jC v).elim (cond (!YR v&&(!isTup v&&EM true sc nm ts (slots nm ts))) (.Ur (slots nm ts) (t v)) .bad) fun vs=>cond (Ho sc nm ts vs (slots nm ts)) (Ab0 t own ts vs (slots nm ts)) .bad
 | .Attribute o a _=>(nameOf o).elim .bad fun x=>(nm.lookup x).elim .bad fun j=>cond (a=="at"&&(!Lb x&& !YR v)) (.ON j (t v)) .bad
 | .Subscript o s _=>(nameOf o).elim .bad fun x=>(nm.lookup x).elim .bad fun j=>cond (Abx s&&(!Lb x&& !YR v)) (.NR j (t v)) .bad
 |_=> .bad
noncomputable def Fp(e:Expr):List Nat:=(Uc e).filterMap fun x=>nm.lookup x
noncomputable def aC(o cause:Option Expr):PS:=cond cause.isNone ((o.bind Wz).elim .bad fun q=>cond (q.UA.isEmpty&&noStar q.es) ((nameOf q.f).elim .bad fun x=>cond (Xl sc nm x) ((J9 x).elim .bad fun k=> .raise k (NB t q.es)) .bad) .bad) .bad
noncomputable def stS(ss:List Stmt→PS)(s:Stmt):PS:=match s with
 | .Pass _=> .skip
 | .Expr e _=>exP t sc nm own e
 | .Return o _=>o.elim (.ret (.lit .none)) fun e=>cond (aB e) (.ret (t e)) (.Zl (t e))
 | .If c b o _=> .ite (tT c) (ss b) (ss o)
 | .While c b o _=>cond o.isEmpty (.wh (tT c) (ss b)) .bad
 | .For g it b o _=>cond (o.isEmpty&&(OF it&&U7 true sc nm g (Fp nm g))) (.VC (Fp nm g) (trI t sc nm it) (ss b)) .bad
 | .AugAssign g op e _=>(nameOf g).elim .bad fun x=>(nm.lookup x).elim .bad fun i=>cond (Xk true sc nm x i&& !Lb x) (.aug i op (t e)) .bad
 | .Assign gs v _=>cond (gs.length==1) ((gs.head?).elim .bad fun g=>asP t T sc nm own g v) .bad
 | .Raise o cause _=>aC t sc nm o cause
 |_=> .bad
end
noncomputable def Abz(f:Stmt→PS):List Stmt→PS
 |[]=> .skip
 |s::r=> .seq (f s) (Abz f r)
noncomputable def WZ(T:Tr)(sc:eg)(nm:NM)(own:List Str):Nat→List Stmt→PS
 |0,_=> .bad
 |n+1,l=>Abz (stS (T.E sc nm) (T.T sc nm) T sc nm own (WZ T sc nm own n)) l
structure ET(C:Cx)(r:Nat):Prop extends Hyp C r where
 raise:∀(c:Cf),c.Ok→c.r=r→∀x p pos cp es k a,Xl c.ce.scope c.nm x=true→J9 x=some k→noStar es=true→(∀ν,YD C c ν es a)→ZJ C c (.Raise (some (.Call (.Name x p) es [] cp)) none pos) (.raise k a)
section
variable{C:Cx}{c:Cf}{s:Stmt}{p p':PS}{b:Bool}{α:Type}{o:Option α}{f:α→PS}
theorem ZJ.bad:ZJ C c s .bad:=fun ν env st N R X s i hq=>False.elim hq
theorem ZJ.gd(h:b=true→ZJ C c s p):ZJ C c s (cond b p .bad):=by cases b;exact .bad;exact h rfl
theorem ZJ.ng(h:b=false→ZJ C c s p):ZJ C c s (cond b .bad p):=by cases b;exact h rfl;exact .bad
theorem ZJ.nG(h:b=true→ZJ C c s p)(h':b=false→ZJ C c s p'):ZJ C c s (cond b p p'):=by cases b;exact h' rfl;exact h rfl
theorem ZJ.opt(h:∀a,o=some a→ZJ C c s (f a)):ZJ C c s (o.elim .bad f):=by cases o;exact .bad;exact h _ rfl
theorem ZJ.alt(h0:o=none→ZJ C c s p)(h:∀a,o=some a→ZJ C c s (f a)):ZJ C c s (o.elim p f):=by cases o;exact h0 rfl;exact h _ rfl
theorem nf{b:Bool}(h:(!b)=true):b=false:=(ia _).mp h
variable{r n:Nat}{pos:Pos}{own:List Str}{t tT:Expr→PE}{T:Tr}{e v:Expr}
abbrev cQ(C:Cx)(c:Cf)(t:Expr→PE):Prop:=∀ν e,ZL C c ν e (t e)
theorem jJ{x:Str}{j:Nat}(w:c.wr=true)(h:Xk true c.ce.scope c.nm x j=true):Xk c.wr c.ce.scope c.nm x j=true:=by rw[w];exact h
theorem Qt(h:isStar e=false):noStar [e]=true:=congrArg (fun b=> !b&&true) h
theorem OJ{a:Expr}{es:List Expr}(h:(es.isEmpty&& !isStar a)=true):es=[]∧isStar a=false:=⟨b6.mp (both h).1,nf (both h).2⟩
theorem jK{x:Str}{q:H6}{pp:Pos}(ok:c.Ok)(w:c.wr=true)(h:cQ C c t)(hx:q.x=x):ZJ C c (.Expr (.Call (.Attribute (.Name x pp) q.m q.ap) q.es [] q.cp) pos) (Ab1 t c.ce.scope c.nm q):= .opt fun j hj=> .gd fun g=>by
 obtain⟨y,m,es,ap,cp⟩:=q
 cases hx
 have d:=YM (nf (both (both g).2).1)
 have hp:=beq_iff_eq.mp (both (both g).2).2
 cases es with
 |nil=>exact .gd fun e=>beq_iff_eq.mp e▸Ay ok (jJ w (both g).1) d.d d.c hp
 |cons a es=>
  refine .gd fun z=> ?_
  cases (OJ z).1
  exact .nG (fun e=>beq_iff_eq.mp e▸Az ok (Qt (OJ z).2) (jJ w (both g).1) d.d d.c hp (fun ν=>h ν _) fun env=>Yq (OJ z).2) fun _=> .gd fun e=>beq_iff_eq.mp e▸Ax ok (Qt (OJ z).2) (jJ w (both g).1) d.d d.c hp (fun ν=>h ν _) fun env=>Yq (OJ z).2
theorem aD{x:Str}{q:H6}{pp ap1:Pos}(ok:c.Ok)(h:cQ C c t)(hx:q.x=x):ZJ C c (.Expr (.Call (.Attribute (.Attribute (.Name x pp) "octets" ap1) q.m q.ap) q.es [] q.cp) pos) (nE t c.nm q):= .opt fun j hj=> .gd fun g=>by
 obtain⟨y,m,es,ap,cp⟩:=q
 cases hx
 have d:=YM (nf (both g).1)
 have hp:=beq_iff_eq.mp (both g).2
 cases es with
 |nil=>exact .bad
 |cons a es=>
  refine .gd fun z=> ?_
  cases (OJ z).1
  exact .nG (fun e=>beq_iff_eq.mp e▸MU ok (Qt (OJ z).2) hj d.d d.c hp (fun ν=>h ν _) fun env=>Yq (OJ z).2) fun _=> .gd fun e=>beq_iff_eq.mp e▸MT ok (Qt (OJ z).2) hj d.d d.c hp (fun ν=>h ν _) fun env=>Yq (OJ z).2
theorem vP(ok:c.Ok)(w:c.wr=true)(h:cQ C c t):ZJ C c (.Expr e pos) (exP t c.ce.scope c.nm own e):=
 .alt (fun _=> .alt (fun _=> .ng fun k=>iP ok k fun ν=>h ν _) fun q hq=>(JE hq).elim fun b k=>(jH k.2).elim fun pp k2=>k2.elim fun ap k2=>k.1▸k2▸aD ok h rfl)
  fun q hq=>(av.mp hq).elim fun q' k=>by
   cases (Zy k.2).2
   exact(JE k.1).elim fun b k=>(ZC k.2).elim fun pp k2=>k.1▸k2▸jK ok w h rfl
variable{x:Str}{i:Nat}{pp:Pos}
theorem Fq(ok:c.Ok)(w:c.wr=true)(hT:OI C r T)(hr:c.r=r)(hk:Xk true c.ce.scope c.nm x i=true):ZJ C c (.Assign [.Name x pp] v pos) (vL (T.E c.ce.scope c.nm) T c.ce.scope c.nm i v):=
 have h:cQ C c (T.E c.ce.scope c.nm):=fun ν e=>(hT c ν e ok hr).1
 .alt (fun _=> .ng fun k=>Am ok k (Ys ok (jJ w hk)) fun ν=>h ν _) fun q hq=> .opt fun g hg=> .gd fun k=>(vE hq).elim fun p e=>by
  subst e
  rw[Ff hg]
  exact MZ ok (jJ w hk) (both k).1 (both k).2 (fun ν=>Le ok (h ν)) (JC hT hr) (JD hT hr)
theorem jL(h:Ab2 c.ce.scope c.nm v=some e):AZ c "list" v [e]:=
 (av.mp h).elim fun l h=>by
  have k:=Zy h.2
  refine aj fun hn=> ?_
  obtain⟨a,ea⟩:=Ld k.1
  cases ea
  cases k.2
  exact hn (Su h.1)
theorem vN(h:nA c.ce.scope c.nm v=true):AZ c "bytearray" v []:=(Zg h).elim fun l h=>b6.mp h.2▸Su h.1
theorem Ab3(h:noStar [e]=true):isStar e=false:=nf (both h).1
theorem jM(ok:c.Ok)(w:c.wr=true)(hT:OI C r T)(hr:c.r=r)(hk:Xk true c.ce.scope c.nm x i=true):ZJ C c (.Assign [.Name x pp] v pos) (Abw (T.E c.ce.scope c.nm) T c.ce.scope c.nm i v):=
 have h:cQ C c (T.E c.ce.scope c.nm):=fun ν e=>(hT c ν e ok hr).1
 .alt (fun _=> .alt (fun _=> .nG (fun k=>match vN k with|⟨_,_,e,g,_⟩=>e▸MQ ok (jJ w hk) g.k) fun _=>Fq ok w hT hr hk)
  fun e he=>match jL he with|⟨_,_,e,g,n⟩=>e▸MI ok n (Ys ok (jJ w hk)) g.k fun ν=>Wd (fun env=>Yq (Ab3 n)) (h ν _) Wu)
  fun es he=>(WY he).elim fun p k=>k▸Jm ok (Ys ok (jJ w hk)) fun ν=>XS (h ν)
theorem jI{ts vs:List Expr}{k k':Nat}{p p':Pos}{is:List Nat}(ok:c.Ok)(h:cQ C c t)(hs:Ho c.ce.scope c.nm ts vs is=true):ZJ C c (.Assign [.Tuple ts k p] (.Tuple vs k' p') pos) (Ab0 t own ts vs is):=by
 match is,vs with
 |[],_=>exact .bad
 |[_],_=>exact .bad
 |_::_::_,[]=>exact .bad
 |_::_::_,[_]=>exact .bad
 |i::j::is2,a::b::vs2=>
  have ut:∀{is:List Nat} {vs:List Expr},Ho c.ce.scope c.nm ts vs is=true→ZJ C c (.Assign [.Tuple ts k p] (.Tuple vs k' p') pos) (.VH is (NB t vs)):=fun hs=>Hp ok hs fun ν=>XS (h ν)
  refine .nG (fun e=> ?_) fun _=>ut hs
  cases b6.mp (both e).1
  cases b6.mp (both e).2
  refine .alt (fun _=>ut hs) fun es he=>(WY he).elim fun lp ea=> ?_
  cases ea
  refine .alt (fun _=> .nG (fun z=>Hs ok hs (fun ν=>XS (h ν)) fun ν=>h ν _) fun _=>ut hs) fun es' he'=>(WY he').elim fun lp' eb=> ?_
  cases eb
  exact .nG (fun _=>Hq ok hs (fun ν=>XS (h ν)) fun ν=>XS (h ν)) fun _=>ut hs
theorem aE{i:Int}{k:zo}(h:isInt i k=true):k= .int i:=by
 cases k with
 |int y=>exact congrArg _ (beq_iff_eq.mp h)
 |_=>exact nomatch h
theorem vO{g:Expr}(ok:c.Ok)(w:c.wr=true)(hT:OI C r T)(hr:c.r=r):ZJ C c (.Assign [g] v pos) (asP (T.E c.ce.scope c.nm) T c.ce.scope c.nm own g v):=by
 have h:cQ C c (T.E c.ce.scope c.nm):=fun ν e=>(hT c ν e ok hr).1
 cases g with
 |Name x p=>exact .opt fun i hi=> .gd fun hk=> .nG (fun _=>jM ok w hT hr hk) fun _=>Fq ok w hT hr hk
 |Tuple ts k p=>exact .alt (fun _=> .gd fun z=>EL ok (nf (both z).1) (nf (both (both z).2).1) (w▸(both (both z).2).2) fun ν=>h ν _) fun vs hv=> .gd fun hs=>(Fe hv).elim fun k' e=>e.elim fun p' e=>e▸jI ok h hs
 |Attribute o a p=>
  refine .opt fun x hx=> .opt fun j hj=> .gd fun z=>(ZC hx).elim fun p' e=> ?_
  subst e
  cases beq_iff_eq.mp (both z).1
  have d:=YM (nf (both (both z).2).1)
  exact Hw ok (nf (both (both z).2).2) hj d.d d.c fun ν=>h ν _
 |Subscript o s p=>
  refine .opt fun x hx=> .opt fun j hj=> .gd fun z=>(ZC hx).elim fun p' e=>(Zg (both z).1).elim fun k hk=>(X9 hk.1).elim fun n hn=>hn.elim fun cp hn=> ?_
  subst e hn
  cases aE hk.2
  have d:=YM (nf (both (both z).2).1)
  exact Jx ok (nf (both (both z).2).2) hj d.d d.c fun ν=>h ν _
 |_=>exact .bad
theorem EU{o cause:Option Expr}(H:ET C r)(ok:c.Ok)(hr:c.r=r)(h:cQ C c t):ZJ C c (.Raise o cause pos) (aC t c.ce.scope c.nm o cause):= .gd fun z=> .opt fun q hq=> .gd fun k=> .opt fun x hx=> .gd fun g=> .opt fun n hn=>by
 obtain⟨e,he,h2⟩:=av.mp hq
 subst he
 have e1:=Y0 h2
 obtain⟨f,l',UA,cp⟩:=q
 obtain⟨p,ep⟩:=ZC hx
 cases ep
 cases b6.mp (both k).1
 cases gm.mp z
 subst e1
 exact H.raise c ok hr _ _ _ _ _ _ _ g hn (both k).2 fun ν=>XS (h ν)
theorem vQ{ss:List Stmt→PS}(H:ET C r)(ok:c.Ok)(w:c.wr=true)(hT:OI C r T)(hr:c.r=r)(hs:∀c':Cf,c'.Ok→c'.wr=true→c'.r=r→c'.ce.scope=c.ce.scope→c'.nm=c.nm→∀l,Wv C c' l (ss l)):ZJ C c s (stS (T.E c.ce.scope c.nm) (T.T c.ce.scope c.nm) T c.ce.scope c.nm own ss s):=by
 have h:cQ C c (T.E c.ce.scope c.nm):=fun ν e=>(hT c ν e ok hr).1
 have hs':=hs c ok w hr rfl rfl
 cases s with
 |Pass p=>exact EH
 |Expr e p=>exact vP ok w h
 |Return o p=>cases o with
  |none=>exact EI
  |some e=>exact .nG (fun _=>Ak fun ν=>h ν _) fun _=>EJ fun ν=>h ν _
 |If c b o p=>exact iJ (fun ν=>(hT _ ν _ ok hr).2) (hs' _) (hs' _)
 |While c b o p=>exact .gd fun z=>b6.mp z▸iI ok (fun ν=>(hT _ ν _ ok hr).2) (hs' _)
 |For g it b o p=>exact .gd fun z=>b6.mp (both z).1▸A8 ok (both (both z).2).1 (w▸(both (both z).2).2) (fun ν=>Le ok (h ν)) fun ex kp=>hs (c.cc ex kp) ok.cc w hr rfl rfl _
 |AugAssign g op e p=>exact .opt fun x hx=> .opt fun i hi=> .gd fun z=>(ZC hx).elim fun p' e=>e▸As ok (jJ w (both z).1) (fun ν=>h ν _) (YM (nf (both z).2)).c
 |Assign gs v p=>
  refine .gd fun z=> .opt fun g hg=>(Ld z).elim fun g' e=> ?_
  cases e
  cases hg
  exact vO ok w hT hr
 |Raise o cause p=>exact EU H ok hr h
 |_=>exact .bad
theorem Qu(H:ET C r)(hT:OI C r T){sc:eg}{nm:NM}{n:Nat}:∀c:Cf,c.Ok→c.wr=true→c.r=r→c.ce.scope=sc→c.nm=nm→∀l,Wv C c l (WZ T sc nm own n l):=by
 induction n with
 |zero=>exact fun c ok w hr e1 e2 l ν env st N R X s i hq=>False.elim hq
 |succ n ih=>
  intro c ok w hr e1 e2 l
  subst e1 e2
  induction l with
  |nil=>exact EG
  |cons s l ihl=>exact Hj (vQ H ok w hT hr ih) ihl
end
noncomputable def aF(K:Frag)(e:dw):Option (Int × D):=match e.key with
 | .int k _=>cond (e.hash==hashInt k) ((rdD K 4 e.val).map fun d=>(k,d)) none
 |_=>none
noncomputable def jN(K:Frag)(a:Addr)(o:Obj):Option (List (Int × D)):=match o.data with
 | .dict es _=>cond (o.dict.isNone&&(o.slots.toList.isEmpty&&(o.cls== .type "dict"&& !(a==A0E)))) (reads (aF K) es.toList) none
 |_=>none
noncomputable def Lh(K:Frag)(v:aa):Option (List (Int × D)):=match v with
 | .ref a=>(K.lookup a).bind (jN K a)
 |_=>none
noncomputable def Qv:List (Str × Nat):=[("FORMS",0),("LOADS",1),("STORES",2)]
theorem Ab4(P:b7):Qv.map (fun p=>((HF P).nsMap mainGlobals p.1).bind (Lh (KF P)))=Qv.map (fun p=>some (GD p.2)):=by kernel_rfl
structure Aey(K:Frag)(x:dw)(k:Int)(d:D):Prop where
 e:∃t,x.key= .int k t
 h:x.hash=hashInt k
 v:rdD K 4 x.val=some d
theorem aG{K:Frag}{x:dw}{k:Int}{d:D}(e:aF K x=some (k,d)):Aey K x k d:=by
 cases x with|mk hs key val=>
 cases key with
 |int j t=>
  have q:=Zy e
  exact(bk.mp q.2).elim fun d' w=>by
   cases w.2
   exact⟨⟨t,rfl⟩,beq_iff_eq.mp q.1,w.1⟩
 |_=>exact no e
theorem NG{i k:Int}{t:Tok}:q9 i (.int k t)=(i==k):=by
 show(k==i)=_
 rw[Bool.eq_iff_iff,beq_iff_eq,beq_iff_eq]
 exact eq_comm
theorem isInt_self{k:Int}{t:Tok}:q9 k (.int k t)=true:=NG.trans (beq_self_eq_true k)
structure Ab5(w:b3)(ν:List Addr)(h:Heap)(es:List dw)(L:List (Int × D)):Prop where
 k:∀e∈es,∃k,q9 k e.key=true∧e.hash=hashInt k
 s:∀i,((es.find? fun e=>q9 i e.key).map (·.val)).isSome=(L.lookup i).isSome
 r:∀i d,L.lookup i=some d→∃cv,(es.find? fun e=>q9 i e.key).map (·.val)=some cv∧DR w ν h d cv
theorem jO{w:b3}{ν:List Addr}{h:Heap}{K:Frag}(X:K.In h)(hν:∀a o,K.lookup a=some o→a∉ν){es:List dw}{L:List (Int × D)}(e:reads (aF K) es=some L):Ab5 w ν h es L:=by
 induction es generalizing L with
 |nil=>cases e;exact⟨fun _ h=>(nomatch h),fun _=>rfl,fun _ _ h=>no h⟩
 |cons x r ih=>
   refine YB e fun kd L' e1 e3 e4=> ?_
   subst e4
   have ih:=ih e3
   cases kd with|mk k d=>
   have q:=aG e1
   obtain⟨t,hk⟩:=q.e
   have hki:∀i,q9 i x.key=(i==k):=fun i=>hk▸NG
   refine⟨fun e he=>(ay.mp he).elim (fun w=>w▸⟨k,(hki k).trans (beq_self_eq_true k),q.h⟩) (ih.k e),fun i=> ?_,fun i d' hd=> ?_⟩
   ·rw[List.find?_cons,hki,gz]
    cases i==k with
    |true=>rfl
    |false=>exact ih.s i
   ·rw[gz] at hd
    rw[List.find?_cons,hki]
    cases hik:i==k with
    |true=>
     rw[hik] at hd
     cases hd
     exact⟨_,rfl,BQ X hν q.v⟩
    |false=>
     rw[hik] at hd
     exact ih.r i d' hd
inductive nH(w:b3)(ν:List Addr)(h:Heap)(L:List (Int × D))(v:aa):Prop
 |mk (a:Addr) (f:Int→Option aa) (e:v= .ref a) (n:(a==A0E)=false) (m:h.MapOf (A0U pw w) a f) (s:∀i,(f i).isSome=(L.lookup i).isSome) (r:∀i d,L.lookup i=some d→∃cv,f i=some cv∧DR w ν h d cv)
theorem EV{w:b3}{ν:List Addr}{h:Heap}{K:Frag}(X:K.In h)(hν:∀a o,K.lookup a=some o→a∉ν){v:aa}{L:List (Int × D)}(e:Lh K v=some L):nH w ν h L v:=by
 cases v with
 |ref a=>
   refine(av.mp e).elim fun o q=> ?_
   cases o with|mk cls dc da sl=>
   cases da with
   |dict es n=>
    have k:=Zy q.2
    have k1:=both k.1
    have k2:=both k1.2
    have k3:=both k2.2
    have E:=jO (w:=w) (ν:=ν) X hν k.2
    have ff:∀i,findBy q9 es i=(es.toList.find? fun e=>q9 i e.key).map (·.val):=fun i=>by
     unfold findBy
     rw[← Array.find?_toList]
    refine⟨a,findBy q9 es,rfl,(ia _).mp k3.2,⟨_,es,n,X _ _ q.1,⟨beq_iff_eq.mp k3.1,gm.mp k1.1,Array.toList_eq_nil_iff.mp (b6.mp k2.1)⟩,rfl,fun e he=>E.k e (Array.mem_toList_iff.mpr he),fun k=>rfl⟩,fun i=>ff i▸E.s i,fun i d hd=>ff i▸E.r i d hd⟩
   |_=>exact no q.2
 |_=>exact no e
section
variable{C:Cx}{c:Cf}{ν:List Addr}{env:Ev}{st:St}{s s':ai}{X:Xp}{l r:Expr}{x:Str}{p pos:Pos}{k:Nat}{a:PE}
theorem ND{A:bz}{E:aa→ai→Prop}{R:aa→ai→Prop}(ok:c.Ok)(i:c.I ν env st s)(hg:Xl c.ce.scope c.nm x=true)(hd:Ra x=some k)(hR:∀v,Lh (KF c.w.params) v=some (GD k)→R v s):wpAny c.M A (eval (.Name x p) c.ce) R E s:=
 have g:=Yd hg
 (av.mp (Pw (Ab4 c.w.params) (Zq hd:(x,k)∈Qv))).elim fun v q=>j8 ok.kind g.k (qu (ok.globals▸Vr i) q.1 (hR v q.2)) g.d
theorem Cf.I.dict{v:aa}{L:List (Int × D)}(i:c.I ν env st s)(e:Lh (KF c.w.params) v=some L):nH c.w ν s.heap L v:=EV i.K (fun a o q=>KF_νB i q) e
theorem Ft{R:aa→ai→Prop}{Q:Bool→St→Prop}(hC:C.Uq=QB)(ok:c.Ok)(hg:Xl c.ce.scope c.nm x=true)(hd:Ra x=some k)(h1:ZL C c ν l a)(i:c.I ν env st s)
  (hq:Xu C a env st (fun x st=>ZK x fun i=>XK (C.Uq k i) fun b=>Q b st) X) (hR:∀b st' s',Q b st'→c.I ν env st' s'→c.Go s s'→R (.bool b) s'):
  Zh c.M c.A (eval l c.ce) (fun a s₁=>Zh c.M c.A (eval (.Name x p) c.ce) (fun b s₂=>Zh c.M c.A (jl .In a b) R (c.RX X) s₂) (c.RX X) s₁) (c.RX X) s:=
 (h1 _ _ _ _ _ i hq).then fun sv cv st1 s1 q1 r1 i1 g1=>up (ND ok i1 hg hd fun v e=>by
  refine Z7 (P:=fun cv=>Zh c.M c.A (jl .In cv v) R (c.RX X) s1) q1 r1 fun j t _ q=>Zw q fun b hb q=> ?_
  cases i1.dict e with|mk a f e' n m s0 _=>
  subst e'
  have hb:some ((GD k).lookup j).isSome=some b:=(congrFun (congrFun hC k) j).symm.trans hb
  refine up (wpAny_in_of (knd:=A0U pw c.w) (k:=j) (isInt_self (t:=t)) n m ?_)
  rw[s0 j,bh hb]
  exact hR b st1 _ q (i1.ks (KS.tok s1 _)) (g1.trans (.toks _)))
theorem Fu(h:J6 c.ce.scope c.nm r=some k):∃x p,r= .Name x p∧Xl c.ce.scope c.nm x=true∧Ra x=some k:=
 (av.mp h).elim fun x q=>(ZC q.1).elim fun p e=>⟨x,p,e,(Zy q.2).1,(Zy q.2).2⟩
theorem aH(hC:C.Uq=QB)(ok:c.Ok)(h:J6 c.ce.scope c.nm r=some k)(h1:ZL C c ν l a):jE C c ν (.Compare l [.In] [r] pos) (.Uq k a) (.Uq k a):=by
 refine aj fun hn=> ?_
 obtain⟨x,p,e,g,d⟩:=Fu h
 subst e
 exact hn (⟨fun env st Q X s i hq=>Tj (Ft (Q:=fun b st=>Q (.d (.bool b)) st) hC ok g d h1 i hq fun b st' s' q i' g=>⟨.d (.bool b),st',q,DR.bool b,i',g⟩) rfl,
  fun env st Q X s i hq=>ZV (Ft (Q:=Q) hC ok g d h1 i hq fun b st' s' q i' g=>up (wpAny_truthy_bool ⟨st',q,i',g⟩)) rfl⟩)
theorem sub_int{value slice:Expr}{A:bz}{E:aa→ai→Prop}{R:aa→ai→Prop}{b:Addr}{f:Int→Option aa}{j:Int}{t:Tok}{cv:aa}(hp:isSlice slice=false)(hm:s.heap.MapOf (A0U pw c.w) b f)(hf:f j=some cv)
  (hR:R cv {s with toks:=s.toks+1}):wpAny c.M A (jj value slice (.ref b) (.int j t)) R E s:=
 A05 (T:="dict") hm.typeIs slot_dict_getitem.lookup (wpAny_getItem_of (knd:=A0U pw c.w) (k:=j) (isInt_self (t:=t)) hm hf hR) (Yn hp _ _)
theorem EW{d v:D}(hk:k<3)(h:XQ k d=some v):∃j,d= .int j∧(GD k).lookup j=some v:=by
 have e:∀k,k=0∨k=1∨k=2→XQ k d=d.toInt.bind fun j=>(GD k).lookup j:=fun k h=>by rcases h with h|h|h<;>subst h<;>rfl
 rw[e k ((by decide:∀k,k<3→k=0∨k=1∨k=2) k hk)] at h
 exact(av.mp h).elim fun j q=>⟨j,Tp q.1,q.2⟩
theorem EX(hd:Ra x=some k):k<3:=by
 exact(ay.mp (Zq hd:(x,k)∈Qv)).elim (fun q=>by cases q;decide) fun h=>(ay.mp h).elim (fun q=>by cases q;decide) fun h=>(ay.mp h).elim (fun q=>by cases q;decide) fun h=>nomatch h
theorem jP{slice:Expr}(hC:C.XF=XQ)(ok:c.Ok)(hg:Xl c.ce.scope c.nm x=true)(hd:Ra x=some k)(hp:isSlice slice=false)(h1:ZL C c ν slice a):ZL C c ν (.Subscript (.Name x p) slice pos) (.XF k a):=fun env st Q X s i hq=>
 XE (up (ND ok i hg hd fun v e=>(h1 _ _ _ _ _ i hq).then fun sv cv st1 s1 q1 r1 i1 g1=>WO q1 r1 fun d q1 r1=>Zw q1 fun w hw q=>(EW (EX hd) ((congrFun (congrFun hC k) d).symm.trans hw)).elim fun j hj=>by
  cases hj.1
  obtain⟨t,et⟩:=r1.inv
  cases i1.dict e with|mk b f e' n m _ r=>
  obtain⟨u,u1,u2⟩:=r j w hj.2
  subst et e'
  exact up (sub_int (c:=c) hp m u1 ⟨.d w,st1,q,u2,i1.ks (KS.tok s1 _),g1.trans (.toks _)⟩)))
end
theorem aI{k:zo}{i:Int}(h:intOf k=some i):k= .int i:=by
 cases k with
 |int j=>exact congrArg _ (bh h)
 |_=>exact no h
theorem Qw{e:Expr}{i:Int}(h:(XR e).bind intOf=some i):∃n p,e= .Constant (.int i) n p:=
 (av.mp h).elim fun k q=>aI q.2▸X9 q.1
theorem PU{o:Option Expr}{x:Str}(h:o.bind nameOf=some x):∃p,o=some (.Name x p):=
 (av.mp h).elim fun e q=>(ZC q.2).elim fun p h=>⟨p,h▸q.1⟩
theorem Ab7{α β:Type}{f:α→β}{l:List α}{a b c:β}(h:l.map f=[a,b,c]):∃x y z,l=[x,y,z]∧f x=a∧f y=b∧f z=c:=by
 cases l with
 |nil=>exact nomatch h
 |cons x l=>cases l with
  |nil=>exact nomatch (ic h).2
  |cons y l=>cases l with
   |nil=>exact nomatch (ic (ic h).2).2
   |cons z l=>
    have q:=ic (ic (ic h).2).2
    cases A0n.mp q.2
    exact⟨x,y,z,rfl,(ic h).1,(ic (ic h).2).1,q.1⟩
inductive jQ{K β:Type}[DecidableEq K]{w:b3}(knd:PySem.KeyKind pw w K)(s:ai)(V:Heap→K→β→aa→Prop)(L:K→Option β)(cv:aa)(s':ai):Prop
 |mk (Da:Addr) (f:K→Option aa) (e:cv= .ref Da) (n:s.heap.get? Da=none) (k:KS s s') (m:s'.heap.MapOf knd Da f) (r:∀j d,L j=some d→∃v,f j=some v∧V s'.heap j d v)
section
variable{C:Cx}{c:Cf}{ν:List Addr}{env:Ev}{st:St}{s s':ai}{X:Xp}
theorem const_int{A:bz}{E:aa→ai→Prop}{R:aa→ai→Prop}{j:Int}{n:Nat}{p pos:Pos}{ce:Env}(h:R (.int j s.toks) {s with toks:=s.toks+1}):
  wpAny c.M A (do let x ← eval (.Constant (.int j) n p) ce;standAt pos;pure x) R E s:=ak (wpAny_Constant_int (ak (qi (bg h))))
theorem PT{x:Str}{p:Pos}{d:Int}{A:bz}{E:aa→ai→Prop}{R:aa→ai→Prop}(ok:c.Ok)(i:c.I ν env st s)(hg:Xl c.ce.scope c.nm x=true)(hx:GT.lookup x=some (.int d))(hR:∀t,R (.int d t) s):wpAny c.M A (eval (.Name x p) c.ce) R E s:=
 We ok i (Yd hg).k (Yd hg).d (Zq hx) fun cv r=>(r.inv:∃t,cv= .int d t).elim fun t e=>e▸hR t
theorem Ab6{t1 t2 t3:Tok}{j:Int}{d:D}(h:Iw.lookup j=some d):∃v,zf [((0:Int),A0c 1 t1),(1,.int 2 t2),(2,.int 3 t3)] j=some v∧∀(w:b3) ν h,DR w ν h d v:=by
 refine Yk h (fun e q=> ?_) fun h=>Yk h (fun e q=> ?_) fun h=>Yk h (fun e q=> ?_) fun h=>no h
 ·cases e;cases q;exact⟨_,rfl,fun _ _ _=> .int _ _⟩
 ·cases e;cases q;exact⟨_,rfl,fun _ _ _=> .int _ _⟩
 ·cases e;cases q;exact⟨_,rfl,fun _ _ _=> .int _ _⟩
theorem EY{q:J8}{dp:Pos}{A:bz}{E:aa→ai→Prop}{R:aa→ai→Prop}(ok:c.Ok)(i:c.I ν env st s)(h:Ss c.ce.scope c.nm q=true)
  (hR:∀cv s',jQ (A0U pw c.w) s (fun _ _ d v=>∀w ν h,DR w ν h d v) (fun j=>yc j Iw) cv s'→R cv s'):wpAny c.M A (eval (.Dict q.ks q.vs dp) c.ce) R E s:=by
 refine aj fun hn=> ?_
 obtain⟨ks,vs⟩:=q
 have h1:=both h
 have h2:=both h1.2
 obtain⟨o1,o2,o3,e1,n1,n2,n3⟩:=Ab7 (beq_iff_eq.mp h1.1:ks.map (fun o=>o.bind nameOf)=([some "PASSIVE",some "ACTIVE",some "DECLARED"]:List (Option Str)))
 obtain⟨v1,v2,v3,e2,c1,c2,c3⟩:=Ab7 (beq_iff_eq.mp h2.1:vs.map (fun e=>(XR e).bind intOf)=[some 1,some 2,some 3])
 have gi:=az.mp h2.2
 obtain⟨p1,n1⟩:=PU n1
 obtain⟨p2,n2⟩:=PU n2
 obtain⟨p3,n3⟩:=PU n3
 obtain⟨m1,q1,c1⟩:=Qw c1
 obtain⟨m2,q2,c2⟩:=Qw c2
 obtain⟨m3,q3,c3⟩:=Qw c3
 cases n1;cases n2;cases n3;cases c1;cases c2;cases c3;cases e1;cases e2
 refine hn (wpAny_Dict_pairs (knd:=A0U pw c.w) (pairs:=[(eval (.Name "PASSIVE" p1) c.ce,do let x ← eval (.Constant (.int 1) m1 q1) c.ce;standAt dp;pure x),(eval (.Name "ACTIVE" p2) c.ce,do let x ← eval (.Constant (.int 2) m2 q2) c.ce;standAt dp;pure x),
   (eval (.Name "DECLARED" p3) c.ce,do let x ← eval (.Constant (.int 3) m3 q3) c.ce;standAt dp;pure x)]) rfl (fun q=>nomatch q) (by decide:3≤15) ?_)
 have kk:∀b o,s.heap.get? b=some o→(s.heap.push {cls:= .type "dict",data:= .dict #[]}).get? b=some o:=fun b o=>au _
 have st (tk:Nat):c.I ν env st {s with heap:=s.heap.push {cls:= .type "dict",data:= .dict #[]},toks:=tk}:=i.SO kk
 refine xj (PT (d:=0) ok (st s.toks) (gi _ (.head _)) (by kernel_rfl) fun t1=>const_int ?_)
 refine xj (PT (d:=1) ok (st (s.toks+1)) (gi _ (.tail _ (.head _))) (by kernel_rfl) fun t2=>const_int ?_)
 refine xj (PT (d:=2) ok (st (s.toks+1+1)) (gi _ (.tail _ (.tail _ (.head _)))) (by kernel_rfl) fun t3=>const_int (evalPairs_nil ?_))
 exact⟨[(0,.int 1 s.toks),(1,.int 2 (s.toks+1)),(2,.int 3 (s.toks+1+1))],⟨isInt_self (t:=t1),rfl,isInt_self (t:=t2),rfl,isInt_self (t:=t3),rfl,trivial⟩,A1L _,fun h' hd hs=>
  hR _ _ ⟨_,_,rfl,Zs _,⟨h',_,rfl,fun b o e=>hs.extBut b o (fun q=>Zj (Zs _) e q.symm) (kk b o e)⟩,hd.mapOf,fun j d hj=>(Ab6 hj).elim fun v q=>⟨v,q.1,q.2⟩⟩⟩
theorem jQ.at{K β:Type}[DecidableEq K]{knd:PySem.KeyKind pw c.w K}{V:Heap→K→β→aa→Prop}{L:K→Option β}{cv:aa}{s2:ai}(y:jQ knd s V L cv s')(i:c.I ν env st s)(g:c.Go s' s2):∃Da f,cv= .ref Da∧s2.heap.MapOf knd Da f∧∀j d,L j=some d→∃v,f j=some v∧V s'.heap j d v:=by
 refine aj fun hn=> ?_
 cases y with|mk Da f e n k m r=>
 obtain⟨o,es,ep,e1,w⟩:=m
 exact hn (⟨Da,f,e,⟨o,es,ep,g.al _ _ e1 (fun q=>i.ZE n (i.volν _ q) rfl) (fun q=>i.ZE n (i.frν _ q) rfl),w⟩,r⟩)
theorem jR{slice:Expr}{q:J8}{pos dp:Pos}{a:PE}(hC:C.XF=XQ)(ok:c.Ok)(h:Ss c.ce.scope c.nm q=true)(hp:isSlice slice=false)(h1:ZL C c ν slice a):ZL C c ν (.Subscript (.Dict q.ks q.vs dp) slice pos) (.XF 3 a):=fun env st Q X s i hq=>
 XE (up (EY ok i h fun cv s0 y=>by
  have k0:KS s s0:=by cases y;assumption
  have i0:=i.ks k0
  refine(h1 _ _ _ _ _ i0 hq).then fun sv cv st1 s1 q1 r1 i1 g1=>WO q1 r1 fun d q1 r1=>Zw q1 fun w hw q=> ?_
  obtain⟨Da,f,e,m,r⟩:=y.at i g1
  subst e
  refine(av.mp ((congrFun (congrFun hC 3) d).symm.trans hw)).elim fun j hj=> ?_
  cases Tp hj.1
  obtain⟨t,et⟩:=r1.inv
  obtain⟨u,u1,u2⟩:=r j w hj.2
  subst et
  exact up (sub_int (c:=c) hp m u1 ⟨.d w,st1,q,u2 _ _ _,i1.ks (KS.tok s1 _),k0.go.trans (g1.trans (.toks _))⟩)))
end
noncomputable def objOf(K:Frag)(a:Addr):Obj:=(K.lookup a).getD ⟨.none,none,.plain,#[]⟩
noncomputable def fdO(o:Obj):Option jh:=match o.data with
 | .func fd=>some fd
 |_=>none
noncomputable def fdOf(K:Frag)(a:Addr):jh:=(fdO (objOf K a)).getD default
noncomputable def Li(fd:jh):Option (List Stmt):=match fd.body with
 | .stmts b=>some b
 |_=>none
noncomputable def bodyOf(fd:jh):List Stmt:=(Li fd).getD []
noncomputable def Ab8(K:Frag)(fd:jh):Bool:=codeIn K fd.code fd.qualname&&((Li fd).isSome&&(fd.closure.isEmpty&&(fd.globals==mainGlobals&&(fd.builtins==builtinsNs&&(!fd.scope.isCoroutine&&(!fd.scope.isGenerator&&isFn fd.scope))))))
noncomputable def V5(K:Frag)(a:Addr):Bool:=(K.lookup a).any fun o=>(fdO o).any (Ab8 K)
theorem aJ{o:Obj}{fd:jh}(h:fdO o=some fd):o.data= .func fd:=by
 unfold fdO at h
 cases e:o.data with
 |func g=>rw[e] at h;cases h;rfl
 |_=>rw[e] at h;exact no h
theorem EZ{fd:jh}{b:List Stmt}(h:Li fd=some b):fd.body= .stmts b:=by
 unfold Li at h
 cases e:fd.body with
 |stmts g=>rw[e] at h;cases h;rfl
 |_=>rw[e] at h;exact no h
theorem jS{sc:eg}(h:isFn sc=true):sc.kind= .function:=by
 unfold isFn at h
 cases e:sc.kind with
 |function=>rfl
 |_=>rw[e] at h;exact nomatch h
theorem YX{P:b7}{f:Addr}{names:List Str}(h:V5 (KF P) f=true)(hb:∀S (vals:List aa),vals.length=names.length→peek (KF P) S (m6 (fdOf (KF P) f) ⟨vals,[]⟩)=some (names.zip vals)):
  Yt P f (fdOf (KF P) f) (objOf (KF P) f) (bodyOf (fdOf (KF P) f)) names:=by
 obtain⟨o,ho,h⟩:=Zg h
 obtain⟨fd,hf,h⟩:=Zg h
 have e:objOf (KF P) f=o:=congrArg (A1y · _) ho
 have e2:fdOf (KF P) f=fd:=(congrArg (fun o=>(fdO o).getD default) e).trans (congrArg (A1y · _) hf)
 rw[e2] at hb
 rw[e,e2]
 have h2:=both (both h).2
 have h3:=both h2.2
 have h4:=both h3.2
 have h5:=both h4.2
 have h6:=both h5.2
 have h7:=both h6.2
 exact(fk.mp h2.1).elim fun b hb'=>⟨ho,aJ hf,(both h).1,(EZ hb').trans (congrArg _ (congrArg (A1y · []) hb').symm),b6.mp h3.1,beq_iff_eq.mp h4.1,beq_iff_eq.mp h5.1,nf h6.1,nf h7.1,jS h7.2,hb⟩
noncomputable def strOf:zo→Option Str
 | .str x=>some x
 |_=>none
theorem aK{k:zo}{x:Str}(h:strOf k=some x):k= .str x:=by
 cases k with
 |str j=>exact congrArg _ (bh h)
 |_=>exact no h
noncomputable def vR(e:Expr):Option Int:=(XR e).bind intOf
noncomputable def PV(p:Option Expr × Expr):Option (Str × List Int):=((p.1.bind XR).bind strOf).bind fun x=>(PM p.2).bind fun es=>(reads vR es).map fun l=>(x,l)
noncomputable def aQ:Stmt→Option Expr
 | .Return o _=>o
 |_=>none
theorem Lj{s:Stmt}{e:Expr}(h:aQ s=some e):∃p,s= .Return (some e) p:=by
 cases s with
 |Return o p=>cases h;exact⟨_,rfl⟩
 |_=>exact no h
theorem JG{e:Expr}{q:J8}(h:J7 e=some q):∃p,e= .Dict q.ks q.vs p:=by cases e<;>first|exact no h|(cases h;exact⟨_,rfl⟩)
noncomputable def Fv(b:List Stmt):Option (List (Str × List Int)):=(b.head?.bind aQ).bind fun e=>(J7 e).bind fun q=>cond (b.length==1&&q.ks.length==q.vs.length) (reads PV (q.ks.zip q.vs)) none
theorem aO(P:b7):Fv (bodyOf (fdOf (KF P) 803))=some texts:=by kernel_rfl
theorem aP(P:b7):V5 (KF P) 803=true:=by kernel_rfl
theorem aN(P:b7)(S:jw):peek (KF P) S (m6 (fdOf (KF P) 803) ⟨[],[]⟩)=some (([]:List Str).zip []):=by kernel_rfl
inductive PrR(p:Option Expr × Expr)(x:Str)(l:List Int):Prop
 |mk (n:Nat) (cp lp:Pos) (es:List Expr) (e:p=(some (.Constant (.str x) n cp),.List es lp)) (r:reads vR es=some l)
theorem NH{p:Option Expr × Expr}{x:Str}{l:List Int}(h:PV p=some (x,l)):PrR p x l:=by
 obtain⟨o,v⟩:=p
 obtain⟨y,h1,h2⟩:=av.mp h
 obtain⟨es,h3,h4⟩:=av.mp h2
 obtain⟨l',h5,h6⟩:=bk.mp h4
 obtain⟨k,h7,h8⟩:=av.mp h1
 obtain⟨e,h9,L9⟩:=av.mp h7
 obtain⟨n,cp,L9⟩:=X9 L9
 obtain⟨lp,h3⟩:=WY h3
 cases h6
 cases aK h8
 cases h9
 cases L9
 cases h3
 exact⟨n,cp,lp,es,rfl,h5⟩
inductive xY(h0 h:Heap)(l:List Int)(v:aa):Prop
 |mk (a:Addr) (xs:Array aa) (n:Nat) (e:v= .ref a) (f:h0.get? a=none) (g:h.get? a=some (Zo xs n)) (r:qf xs.toList l) (z:xs.size≤YU)
theorem xY.to{h0 h1 h h':Heap}{l:List Int}{v:aa}(x:xY h1 h l v)(k0:∀b o,h0.get? b=some o→h1.get? b=some o)(k:∀b o,h.get? b=some o→(∀o',h1.get? b≠some o')→h'.get? b=some o):xY h0 h' l v:=by
 cases x with|mk a xs n e f g r z=>exact⟨a,xs,n,e,none_of k0 f,k _ _ g (fun o q=>nomatch f.symm.trans q),r,z⟩
inductive nJ(h0 h:Heap):List (Str × List Int)→List (Str × aa)→Prop
 |nil:nJ h0 h [] []
 |cons {x:Str} {l:List Int} {v:aa} {L:List (Str × List Int)} {kvs:List (Str × aa)}:xY h0 h l v→nJ h0 h L kvs→nJ h0 h ((x,l)::L) ((x,v)::kvs)
theorem nJ.to{h0 h1 h h':Heap}{L:List (Str × List Int)}{kvs:List (Str × aa)}(x:nJ h1 h L kvs)(k0:∀b o,h0.get? b=some o→h1.get? b=some o)(k:∀b o,h.get? b=some o→(∀o',h1.get? b≠some o')→h'.get? b=some o):nJ h0 h' L kvs:=by
 induction x with
 |nil=>exact .nil
 |cons a _ ih=>exact .cons (a.to k0 k) ih
section
variable{w:b3}{A:bz}{E:aa→ai→Prop}{s:ai}{ce:Env}
theorem JF{pos:Pos}{es:List Expr}{ns:List Int}{R:List aa→ai→Prop}(e:reads vR es=some ns)(hR:∀vs tk,qf vs ns→R vs {s with toks:=tk}):wpAny (model pw w) A (spliced (backTo pos (starEach es ce))) R E s:=by
 induction es generalizing ns s R with
 |nil=>cases e;exact PySem.Calls.spliced_nil (hR [] s.toks .nil)
 |cons x r ih=>
  refine YB e fun i ns' e1 e3 e4=> ?_
  subst e4
  obtain⟨n,p,e1⟩:=Qw e1
  subst e1
  show wpAny _ _ (spliced ((false,eval _ ce)::backTo pos (starEach r ce))) R E s
  exact PySem.Calls.spliced_cons (wpAny_Constant_int (ih e3 fun vs tk h=>hR _ _ (.cons _ _ h)))
noncomputable def prs(ce:Env)(dp:Pos)(p:Option Expr × Expr):Sem aa × Sem aa:=(p.1.elim (pure .none) fun e=>eval e ce,do let x ← eval p.2 ce;standAt dp;pure x)
theorem aR{vs:List aa}{ns:List Int}(h:qf vs ns):vs.length=ns.length:=by
 induction h with
 |nil=>rfl
 |cons _ _ _ ih=>exact congrArg (· +1) ih
theorem Dc{dp:Pos}{pv:List (Option Expr × Expr)}{L:List (Str × List Int)}{R:List (aa × aa)→ai→Prop}(e:reads PV pv=some L)(hz:∀p∈L,p.2.length≤1000)
  (hR:∀vs kvs h' tk,vs.length=L.length→Carries (PySem.strKind pw w) vs kvs→nJ s.heap h' L kvs→(∀b o,s.heap.get? b=some o→h'.get? b=some o)→R vs {s with heap:=h',toks:=tk}):wpAny (model pw w) A (evalPairs (pv.map (prs ce dp))) R E s:=by
 induction pv generalizing L s R with
 |nil=>cases e;exact evalPairs_nil (hR [] [] s.heap s.toks rfl trivial .nil fun _ _ e=>e)
 |cons x r ih=>
  refine YB e fun kl L' e1 e3 e4=> ?_
  subst e4
  cases kl with|mk k l=>
  cases NH e1 with|mk n cp lp es ex e5=>
  subst ex
  refine xj (PySem.Calls.Constant_str (k:=n) (pos:=cp) (ak (wpAny_List_spliced (JF e5 fun us tk hu=> ?_))))
  have z:us.length≤1000:=aR hu▸hz _ (.head _)
  have k1:∀b o,s.heap.get? b=some o→(s.heap.push {cls:= .type "list",data:= .seq us.toArray}).get? b=some o:=fun b o e=>au _ e
  refine⟨ao z (by decide),ak (qi (bg (ih (s:={s with heap:=s.heap.push {cls:= .type "list",data:= .seq us.toArray},toks:=tk}) e3 (fun p hp=>hz p (.tail _ hp)) fun vs kvs h' tk' hl hc hx hk=> ?_)))⟩
  exact hR _ ((k,.ref s.heap.objs.size)::kvs) h' tk' (congrArg (· +1) hl) ⟨(beq_self_eq_true k:(k==k)=true),rfl,hc⟩ (.cons ⟨_,us.toArray,0,rfl,Zs _,hk _ _ (b9 _ rfl),hu,ao (je▸z) (by decide)⟩ (hx.to k1 fun _ _ e _=>e)) fun b o e=>hk b o (k1 b o e)
theorem aM{dp:Pos}{ks:List (Option Expr)}{vs:List Expr}{L:List (Str × List Int)}(hl:ks.length=vs.length)(e:reads PV (ks.zip vs)=some L):
  (evalEachOpt ks ce).zip ((evalEach vs ce).map fun v=>do let x ← v;standAt dp;pure x)=((ks.zip vs).map (prs ce dp)).map fun p=>(some p.1,p.2):=by
 induction ks generalizing vs L with
 |nil=>cases vs with
  |nil=>rfl
  |cons _ _=>exact nomatch hl
 |cons k ks ih=>cases vs with
  |nil=>exact nomatch hl
  |cons v vs=>
   refine YB (d:=(k,v)) (r:=ks.zip vs) e fun kl L' e1 e3 e4=> ?_
   refine aj fun hn=> ?_
   cases kl with|mk x l=>
   cases NH e1 with|mk n cp lp es ex e5=>
   cases ex
   exact hn (congrArg (_:: ·) (ih (u5 hl) e3))
noncomputable def TL(a b c d f:aa):List (Str × aa):=[("",a),("a",b),("éb",c),("€",d),("𐍈",f)]
theorem AbA{a b c d f:aa}:merged [] (TL a b c d f)=TL a b c d f∧zf (TL a b c d f) ""=some a∧zf (TL a b c d f) "a"=some b∧zf (TL a b c d f) "éb"=some c∧zf (TL a b c d f) "€"=some d∧zf (TL a b c d f) "𐍈"=some f:=
 ⟨by kernel_rfl,by kernel_rfl,by kernel_rfl,by kernel_rfl,by kernel_rfl,by kernel_rfl⟩
set_option tactic.hygienic true in
theorem De{h0 h:Heap}{kvs:List (Str × aa)}(x:nJ h0 h texts kvs){t:Str}{l:List Int}(ht:texts.lookup t=some l):∃v,zf (merged [] kvs) t=some v∧xY h0 h l v:=by
 cases x with|cons a x=>cases x with|cons b x=>cases x with|cons c x=>cases x with|cons d x=>cases x with|cons f x=>cases x with|nil=>
 rename_i va vb vc vd vf
 have T:=@AbA va vb vc vd vf
 show ∃v,zf (merged [] (TL va vb vc vd vf)) t=_∧_
 rw[T.1]
 refine Yk ht (fun e q=> ?_) fun h=>Yk h (fun e q=> ?_) fun h=>Yk h (fun e q=> ?_) fun h=>Yk h (fun e q=> ?_) fun h=>Yk h (fun e q=> ?_) fun h=>no h
 ·subst e q;exact⟨_,T.2.1,a⟩
 ·subst e q;exact⟨_,T.2.2.1,b⟩
 ·subst e q;exact⟨_,T.2.2.2.1,c⟩
 ·subst e q;exact⟨_,T.2.2.2.2.1,d⟩
 ·subst e q;exact⟨_,T.2.2.2.2.2,f⟩
end
section
variable{C:Cx}{c:Cf}{ν:List Addr}{env:Ev}{st:St}{s s':ai}{X:Xp}
inductive vS(b:List Stmt):Prop
 |mk (ks:List (Option Expr)) (vs:List Expr) (dp rp:Pos) (e:b=[.Return (some (.Dict ks vs dp)) rp]) (l:ks.length=vs.length) (r:reads PV (ks.zip vs)=some texts)
theorem H7{b:List Stmt}(h:Fv b=some texts):vS b:=by
 obtain⟨e,h1,h2⟩:=av.mp h
 obtain⟨q,h3,h4⟩:=av.mp h2
 obtain⟨t,h5,h6⟩:=av.mp h1
 have k:=Zy h4
 obtain⟨rp,h6⟩:=Lj h6
 obtain⟨dp,h3⟩:=JG h3
 obtain⟨t',et⟩:=m8.mp (beq_iff_eq.mp (both k.1).1)
 cases et
 cases h5
 subst h3
 exact⟨q.ks,q.vs,dp,rp,congrArg (fun t=>[t]) h6,beq_iff_eq.mp (both k.1).2,k.2⟩
theorem Df{α β:Type}{f:α→Option β}{l:List α}{L:List β}(e:reads f l=some L):L.length=l.length:=by
 induction l generalizing L with
 |nil=>cases e;rfl
 |cons x r ih=>exact YB e fun a bs _ h q=>q▸congrArg (· +1) (ih h)
theorem H8(P:b7):Yt P 803 (fdOf (KF P) 803) (objOf (KF P) 803) (bodyOf (fdOf (KF P) 803)) []:=YX (aP P) fun S vals hl=>om.mp hl▸aN P S
theorem H9{A:bz}{E:aa→ai→Prop}{R:aa→ai→Prop}(i:c.I ν env st s)(hA:A.depth<A09)
  (hR:∀cv s',jQ (PySem.strKind pw c.w) s (fun h _ l v=>xY s.heap h l v) (fun t=>texts.lookup t) cv s'→R cv s'):Zh c.M A (PySem.call (.ref 803) []) R E s:=by
 have F:=H8 c.w.params
 have ht:=H7 (aO c.w.params)
 generalize bodyOf (fdOf (KF c.w.params) 803)=body at F ht
 generalize fdOf (KF c.w.params) 803=fd at F
 generalize objOf (KF c.w.params) 803=ob at F
 cases ht with|mk ks vs dp rp eb hl ht=>
 have hlen:(ks.zip vs).length=5:=(Df ht).symm
 have F':=eb▸F
 refine XD (X8 hA (i.K _ _ F'.look) F'.data (i.lim.keeps i.stays) (A0D i.K F'.code) F'.body (binds:=[]) (kp_binds i.K fun S=>F'.binds S [] rfl) F'.clo (fun x hx=>nomatch hx) (fun s₁ x=> ?_) F'.co F'.gen F'.kind)
 obtain⟨h₁,tk₁,e,kk⟩:=x.done
 subst e
 refine up (oz (wpAny_Return_some (wpAny_Dict_pairs (knd:=PySem.strKind pw c.w) (aM hl ht) (fun q=>nomatch (aq ..).symm.trans (congrArg List.length q)|>.symm.trans hlen) ?_ ?_)))
 ·rw[aq,hlen]
  decide
 ·refine Dc ht (by decide) fun us kvs h' tk hl2 hc hx hk=>⟨kvs,hc,(A1L h₁).keep hk,fun h'' hd hs=> ?_⟩
  have k1:∀b o,h₁.get? b=some o→(h₁.push {cls:= .type "dict",data:= .dict #[]}).get? b=some o:=fun b o e=>au _ e
  have nD:=Zs h₁
  have kD:∀b o,(h₁.push {cls:= .type "dict",data:= .dict #[]}).get? b=some o→b≠h₁.objs.size→h''.get? b=some o:=fun b o e q=>hs.extBut b o q (hk b o e)
  refine hR _ _ ⟨h₁.objs.size,_,rfl,none_of kk nD,⟨h'',_,rfl,fun b o e=>kD b o (k1 b o (kk b o e)) fun q=>Zj nD (kk b o e) q.symm⟩,hd.mapOf,fun t l htl=> ?_⟩
  exact(De hx htl).elim fun v q=>⟨v,q.1,q.2.to (fun b o e=>k1 b o (kk b o e)) fun b o e n=>hs.extBut b o (fun q=>n _ (q▸b9 h₁ rfl)) e⟩
theorem jT{slice:Expr}{pos cp p:Pos}{a:PE}(hC:C.XF=XQ)(ok:c.Ok)(g:GI c "_law_texts")(hp:isSlice slice=false)(h1:ZL C c ν slice a):ZL C c ν (.Subscript (.Call (.Name "_law_texts" p) [] [] cp) slice pos) (.XF 4 a):=fun env st Q X s i hq=>
 have hm:GT.lookup ("_law_texts":Str)=some (.fn 803):=by kernel_rfl
 XE (Z8 (up<|We ok i g.k g.d (Zq hm) fun cv r=>(DR.inv r:cv=_)▸W6 (es:=[]) (AV hm) rfl (Z6 ⟨i.K,H9 i (bq (ao (br _ _) (br _ _)) ok.depth) fun cv s0 y=>by
  have k0:KS s s0:=by cases y;assumption
  refine(h1 _ _ _ _ _ (i.ks k0) hq).then fun sv cv st1 s1 q1 r1 i1 g1=>WO q1 r1 fun d q1 r1=>Zw q1 fun w hw q=> ?_
  obtain⟨Da,f,e,m,r⟩:=y.at i g1
  subst e
  refine(av.mp ((congrFun (congrFun hC 4) d).symm.trans hw)).elim fun x hx=>(bk.mp hx.2).elim fun l hl=> ?_
  cases Ga hx.1
  refine aj fun hn=> ?_
  obtain⟨t,et⟩:=r1.inv
  obtain⟨u,u1,u2⟩:=r x l hl.1
  subst et
  refine hn (up (A05 (T:="dict") m.typeIs slot_dict_getitem.lookup (wpAny_getItem_of (knd:=PySem.strKind pw c.w) (k:=x) (beq_self_eq_true x:(x==x)=true) m u1 ?_) (Yn hp _ _)))
  cases u2 with|mk b xs n e f g r z=>
  subst e
  exact⟨.d w,st1,q,hl.2▸DR.list (g1.al _ _ g (fun q=>i.ZE f (i.volν _ q) rfl) fun q=>i.ZE f (i.frν _ q) rfl) (fun q=>i.ZE f q rfl) (ZZ.ofInts r) z,i1.ks (KS.tok s1 _),k0.go.trans (g1.trans (.toks _))⟩⟩)))
theorem Fw{v slice:Expr}{pos:Pos}{k:Nat}{a:PE}(hC:C.XF=XQ)(ok:c.Ok)(h:AR c.ce.scope c.nm v=some k)(hp:isSlice slice=false)(h1:ZL C c ν slice a):ZL C c ν (.Subscript v slice pos) (.XF k a):=by
 have h:(J6 c.ce.scope c.nm v).elim (cond ((J7 v).any (Ss c.ce.scope c.nm)) (some 3) (cond ((RA "_law_texts" c.ce.scope c.nm v).any ze) (some 4) none)) some=some k:=h
 cases e:J6 c.ce.scope c.nm v with
 |some j=>
  rw[e] at h
  cases h
  refine aj fun hn=> ?_
  obtain⟨x,p,e,g,d⟩:=Fu e
  exact hn (e▸jP hC ok g d hp h1)
 |none=>
  rw[e] at h
  cases e2:(J7 v).any (Ss c.ce.scope c.nm) with
  |true=>
   rw[e2] at h
   cases h
   refine aj fun hn=> ?_
   obtain⟨q,e3,hm⟩:=Zg e2
   obtain⟨dp,e3⟩:=JG e3
   exact hn (e3▸jR hC ok hm hp h1)
  |false=>
   rw[e2] at h
   have k:=Zy h
   cases k.2
   obtain⟨l,e3,hm⟩:=Zg k.1
   cases Su e3 with|mk p cp e g n=>
   cases b6.mp hm
   exact e▸jT hC ok g hp h1
end
structure AbC where
 t:Expr
 v:Expr
noncomputable def HC:Stmt→Option AbC
 | .Assign ts v _=>cond (ts.length==1) (ts.head?.map fun t=>⟨t,v⟩) none
 |_=>none
theorem Um{s:Stmt}{q:AbC}(h:HC s=some q):∃p,s= .Assign [q.t] q.v p:=by
 cases s with
 |Assign ts v p=>
  have k:=Zy h
  obtain⟨t,e⟩:=Ld k.1
  cases e
  cases k.2
  exact⟨p,rfl⟩
 |_=>exact no h
noncomputable def aT(p:Str→Expr→Bool)(s:Stmt)(n:Str):Bool:=(HC s).any fun q=>(Sq q.t).any (fun a=>isName "self" a.v&&a.m==n)&&(p n q.v&& !YR q.v)
noncomputable def Rc(p:Str→Expr→Bool):List Stmt→List Str→Bool
 |[],ns=>ns.isEmpty
 |s::r,ns=>match ns with
  |[]=>false
  |n::ns=>aT p s n&&Rc p r ns
theorem Zt{x:Str}{e:Expr}(h:isName x e=true):∃p,e= .Name x p:=(Zg h).elim fun y q=>beq_iff_eq.mp q.2▸ZC q.1
inductive nK(p:Str→Expr→Bool)(s:Stmt)(n:Str):Prop
 |mk (sp ap pos:Pos) (e:Expr) (q:s= .Assign [.Attribute (.Name "self" sp) n ap] e pos) (h:p n e=true) (c:YR e=false)
theorem JH{p:Str→Expr→Bool}{s:Stmt}{n:Str}(h:aT p s n=true):nK p s n:=by
 refine aj fun hn=> ?_
 obtain⟨q,h1,h⟩:=Zg h
 obtain⟨a,h2,h3⟩:=Zg (both h).1
 obtain⟨pos,h1⟩:=Um h1
 obtain⟨sp,h5⟩:=Zt (both h3).1
 have h2:=Wy h2
 rw[h5,(beq_iff_eq.mp (both h3).2:a.m=n)] at h2
 rw[h2] at h1
 exact hn (⟨sp,_,pos,_,h1,(both (both h).2).1,nf (both (both h).2).2⟩)
noncomputable def Va(k:Nat):Addr:=[229,257,201].getD k 0
noncomputable def aV(k:Nat):Str:=(["Elem","Data","Import"]:List Str).getD k ""
noncomputable def UY(k:Nat):List Str:=(fieldsOf k).map Yp
noncomputable def Xj(k:Nat):List Str:="self"::UY k
noncomputable def vW(k:mq):Bool:=k== .cell
noncomputable def Sv(p:Str→Expr→Bool)(K:Frag)(g:Option aa)(fd:jh)(f C:Addr)(RJ fl:List Str):Bool:=Rc p (bodyOf fd) fl&&(Ub fl&&((("self":Str)::RJ).all (fun x=>fd.scope.names.lookup x==some .local&& !(x=="__debug__"))&&
 (V5 K f&&(makesIn K C&&(findIn K (.ref C) "__init__"==some (some (.ref f))&&(typeIn K (.ref f)==some (.type "function")&&(g==some (.ref C)&&(fl.all (fun x=>storeOk K C x)&&(Ub (("self":Str)::RJ)&&nj fl.length 900)))))))))
structure aS(p:Str→Expr→Bool)(K:Frag)(g:Option aa)(fd:jh)(f C:Addr)(RJ fl:List Str):Prop where
 body:Rc p (bodyOf fd) fl=true
 ndf:Ub fl=true
 loc:∀x∈("self":Str)::RJ,fd.scope.names.lookup x=some .local∧(x==("__debug__":Str))=false
 fn:V5 K f=true
 mks:makesIn K C=true
 find:findIn K (.ref C) "__init__"=some (some (.ref f))
 ty:typeIn K (.ref f)=some (.type "function")
 g:g=some (.ref C)
 st:∀y∈fl,storeOk K C y=true
 nd:Ub (("self":Str)::RJ)=true
 z:fl.length≤900
theorem YF{p:Str→Expr→Bool}{K:Frag}{g:Option aa}{fd:jh}{f C:Addr}{RJ fl:List Str}(h:Sv p K g fd f C RJ fl=true):aS p K g fd f C RJ fl:=
 have h1:=both h
 have h2:=both h1.2
 have h3:=both h2.2
 have h4:=both h3.2
 have h5:=both h4.2
 have h6:=both h5.2
 have h7:=both h6.2
 have h8:=both h7.2
 have h9:=both h8.2
 have L9:=both h9.2
 ⟨h1.1,h2.1,fun x hx=>have q:=both (az.mp h3.1 x hx);⟨beq_iff_eq.mp q.1,nf q.2⟩,h4.1,h5.1,beq_iff_eq.mp h6.1,beq_iff_eq.mp h7.1,beq_iff_eq.mp h8.1,az.mp h9.1,L9.1,cw L9.2⟩
theorem aU(P:b7):[0,1,2].all (fun k=>Sv isName (KF P) ((HF P).nsMap mainGlobals (aV k)) (fdOf (KF P) (Va k)) (Va k) (Bk k) (UY k) (UY k))=true:=by kernel_rfl
theorem Yo{α:Type}{n:Nat}{l:List α}(h:l.length=n+1):∃a r,l=a::r∧r.length=n:=by
 cases l with
 |nil=>exact nomatch h
 |cons a r=>exact⟨a,r,rfl,u5 h⟩
theorem RL{α:Type}{l:List α}(h:l.length=0):l=[]:=om.mp h
theorem jX(P:b7)(S:jw)(a b c d e f:aa):peek (KF P) S (m6 (fdOf (KF P) (Va 0)) ⟨[a,b,c,d,e,f],[]⟩)=some ((Xj 0).zip [a,b,c,d,e,f]):=by kernel_rfl
theorem jV(P:b7)(S:jw)(a b c d e:aa):peek (KF P) S (m6 (fdOf (KF P) (Va 1)) ⟨[a,b,c,d,e],[]⟩)=some ((Xj 1).zip [a,b,c,d,e]):=by kernel_rfl
theorem jW(P:b7)(S:jw)(a b c d e:aa):peek (KF P) S (m6 (fdOf (KF P) (Va 2)) ⟨[a,b,c,d,e],[]⟩)=some ((Xj 2).zip [a,b,c,d,e]):=by kernel_rfl
theorem AbD{Q:Nat→Prop}(h0:Q 0)(h1:Q 1)(h2:Q 2){k:Nat}(h:k<3):Q k:=by
 cases k with
 |zero=>exact h0
 |succ k=>cases k with
  |zero=>exact h1
  |succ k=>cases k with
   |zero=>exact h2
   |succ k=>exact absurd (gg (gg (gg h))) (vn k)
theorem vU{vals:List aa}{n:Nat}(hl:vals.length=n+5):∃a b c d e r,vals=a::b::c::d::e::r∧r.length=n:=by
 refine aj fun hn=> ?_
 obtain⟨a,r1,e1,h1⟩:=Yo hl
 obtain⟨b,r2,e2,h2⟩:=Yo h1
 obtain⟨c,r3,e3,h3⟩:=Yo h2
 obtain⟨d,r4,e4,h4⟩:=Yo h3
 obtain⟨e,r5,e5,h5⟩:=Yo h4
 subst e1 e2 e3 e4 e5
 exact hn (⟨a,b,c,d,e,r5,rfl,h5⟩)
theorem vV{P:b7}{k:Nat}(h:k<3):∀(S:jw) (vals:List aa),vals.length=(Xj k).length→peek (KF P) S (m6 (fdOf (KF P) (Va k)) ⟨vals,[]⟩)=some ((Xj k).zip vals):=by
 refine AbD (Q:=fun k=>∀(S:jw) (vals:List aa),vals.length=(Xj k).length→peek (KF P) S (m6 (fdOf (KF P) (Va k)) ⟨vals,[]⟩)=some ((Xj k).zip vals)) (fun S vals hl=> ?_) (fun S vals hl=> ?_) (fun S vals hl=> ?_) h
 ·obtain⟨a,b,c,d,e,r,q,h⟩:=vU (n:=1) hl
  obtain⟨f,r,q2,h⟩:=Yo h
  cases RL h
  subst q2 q
  exact jX P S a b c d e f
 ·obtain⟨a,b,c,d,e,r,q,h⟩:=vU (n:=0) hl
  cases RL h
  subst q
  exact jV P S a b c d e
 ·obtain⟨a,b,c,d,e,r,q,h⟩:=vU (n:=0) hl
  cases RL h
  subst q
  exact jW P S a b c d e
structure Dg(P:b7)(k:Nat):Prop where
 g:aS isName (KF P) ((HF P).nsMap mainGlobals (aV k)) (fdOf (KF P) (Va k)) (Va k) (Bk k) (UY k) (UY k)
 f:Yt P (Va k) (fdOf (KF P) (Va k)) (objOf (KF P) (Va k)) (bodyOf (fdOf (KF P) (Va k))) (Xj k)
theorem HB(P:b7){k:Nat}(h:k<3):Dg P k:=
 have hc:=YF (az.mp (aU P) k (AbD (Q:=fun k=>k∈[0,1,2]) (.head _) (.tail _ (.head _)) (.tail _ (.tail _ (.head _))) h))
 ⟨hc,YX hc.fn (vV h)⟩
section
variable{w:b3}{A:bz}{E:aa→ai→Prop}{K:Frag}{ce:Env}{x Cc Da:Addr}{m:Str→Option aa}
structure AbB(K:Frag)(ce:Env)(x Da:Addr)(m:Str→Option aa):Prop where
 kind:ce.scope.kind= .function
 self:ce.kindOf "self"=some .local
 ms:m "self"=some (.ref x)
 kd:∀a o,K.lookup a=some o→a≠Da
 dx:Da≠x
 dl:Da≠ce.locals
def EvC(w:b3)(A:bz)(ce:Env)(m:Str→Option aa)(h0:Heap)(x Da:Addr)(e:Expr)(P:aa→Heap→Prop):Prop:=∀(s:ai) (E:aa→ai→Prop),(∀b o,h0.get? b=some o→s.heap.get? b=some o)→s.heap.Ns ce.locals m→(∀b,s.heap.get? b=none→b≠x∧b≠Da)→Zh (model pw w) A (eval e ce) (fun v s'=>KS s s'∧P v s'.heap) E s
inductive jU(P:Str→aa→Heap→Prop)(h:Heap):List Str→List aa→Prop
 |nil:jU P h [] []
 |cons {n:Str} {ns:List Str} {v:aa} {vs:List aa}:P n v h→jU P h ns vs→jU P h (n::ns) (v::vs)
theorem Lk{M:o8}{s:ai}{env:Env}{o:Expr}{attr:Str}{pos':Pos}{value:Expr}{pos:Pos}{Q:Flow→ai→Prop}
  (h:Zh M A (eval value env) (fun v s₁=>Zh M A (eval o env) (fun ov s₂=>Zh M A (setAttr ov attr v) (fun _=>Q .next) E s₂) E s₁) E s)
  (hs:YR value=false):Zh M A (exec (.Assign [.Attribute o attr pos'] value pos) env) Q E s:=fun Γ p hΓ hc=>by
 simp only[plainObj_exec_Assign_Attribute o attr pos' value pos (ZB hs),assign_Attribute,tu,Sem.wp_holding,Sem.wp_cmd_standAt,A00,Sem.wp_pure']
 exact ni M Γ _ (fun v p₁ s₁ h₁=>ni M Γ _ (fun ov _ s₂ h₂=>h₂ Γ _ hΓ hc) (fun _ _ _ h'=>h') _ _ (h₁ Γ p₁ hΓ hc)) (fun _ _ _ h'=>h') _ _ (h Γ _ hΓ hc)
theorem Dh{P:Str→aa→Heap→Prop}{p:Str→Expr→Bool}{h0:Heap}(I:AbB K ce x Da m)(n0:h0.get? Da=none)(hP:∀n v h h',(∀b o,b≠Da→h.get? b=some o→h'.get? b=some o)→P n v h→P n v h'){stmts:List Stmt}{ns:List Str}{dv:List aa}{dn:List Str}{s:ai}{es:List dw}{n:Nat}{R:Flow→ai→Prop}
  (hev:∀n e,n∈ns→p n e=true→EvC w A ce m h0 x Da e (P n)) (hok:Rc p stmts ns=true) (hN:s.heap.Ns ce.locals m) (hK:K.In s.heap) (k0:∀b o,h0.get? b=some o→s.heap.get? b=some o)
  (hx:s.heap.get? x=some (Yy Cc Da)) (hD:s.heap.get? Da=some (ZA es n)) (he:ZT w dn dv es) (hnd:(dn++ns).Nodup) (hst:∀y∈ns,storeOk K Cc y=true) (hz:(dn++ns).length≤1000)
  (hR:∀h' tk es' n' vs,(∀b o,b≠Da→s.heap.get? b=some o→h'.get? b=some o)→h'.get? Da=some (ZA es' n')→jU P h' ns vs→ZT w (dn++ns) (dv++vs) es'→R .next {s with heap:=h',toks:=tk}):Zh (model pw w) A (execs stmts ce) R E s:=by
 induction stmts generalizing ns dv dn s es n with
 |nil=>
  cases b6.mp hok
  exact ZY (hR s.heap s.toks es n [] (fun b o _ e=>e) hD .nil (by
   rw[bw,bw]
   exact he))
 |cons st r ih=>cases ns with
  |nil=>exact ff hok
  |cons y ns=>
   have hok:=both hok
   refine aj fun hn=> ?_
   cases JH hok.1 with|mk sp ap pos e q hp hc=>
   subst q
   refine hn (ZP (Lk (Zi (hev y e (.head _) hp s _ k0 hN fun b hb=>⟨Zj hb hx,Zj hb hD⟩) (fun v s1 q=> ?_) fun _ _ e=>e) hc))
   refine aj fun hn=> ?_
   obtain⟨⟨H,tk,e1,kk⟩,pv⟩:=q
   subst e1
   have hN1:H.Ns ce.locals m:=hN.elim fun o w=>w.elim fun es w=>w.elim fun ep w=>⟨o,es,ep,kk _ _ w.1,w.2⟩
   have q:=he.push (v:=v) (t0:=tk+1) fun z hz'=>beq_eq_false_iff_ne.mpr ((List.nodup_append.mp hnd).2.2 z hz' y (.head _))
   refine hn (up (uv (j7 I.kind I.self hN1 I.ms ?_) (by decide)))
   have ea:=List.append_cons dn y ns
   have hz1:(putL y (af w.params y) (.str y (tk+1)) v es).length≤1000:=by
    rw[q.r.len]
    exact ao (by
     rw[ea,b4 (as:=dn++[y])]
     exact br _ _) hz
   refine up (Jt (s:={s with heap:=H,toks:=tk}) (fun a o e=>kk _ _ (hK a o e)) (kk _ _ hx) (kk _ _ hD) (hst _ (.head _)) he hz1 fun h' hs hD'=> ?_)
   have kp:∀b o,b≠Da→s.heap.get? b=some o→h'.get? b=some o:=fun b o hb e=>hs.extBut b o hb (kk _ _ e)
   exact ih (s:={s with heap:=h',toks:=tk+2}) (dv:=dv++[v]) (dn:=dn++[y]) (fun n e h=>hev n e (.tail _ h)) hok.2 (hN1.elim fun o w=>w.elim fun es w=>w.elim fun ep w=>⟨o,es,ep,hs.extBut _ _ I.dl.symm w.1,w.2⟩) (fun b o e=>kp b o (I.kd b o e) (hK b o e)) (fun b o e=>kp b o (fun q=>Zj n0 e q.symm) (k0 b o e)) (kp _ _ I.dx.symm hx) hD' q.r
    (ea▸hnd) (fun z hz'=>hst z (.tail _ hz')) (ea▸hz) fun h'' tk es' n' vs k4 k5 k7 k6=>hR h'' tk es' n' (v::vs) (fun b o hb e=>k4 b o hb (kp b o hb e)) k5 (.cons (hP _ _ _ _ (fun b o hb e=>k4 b o hb (hs.extBut b o hb e)) pv) k7) (by
     rw[ea,List.append_cons dv v vs]
     exact k6)
end
end
section
open PyProof.Rows PySem PySem.Builtin PySem.Builtin.ObjectAttr PySem.Calls PySem.SeqAt PySem.W
theorem V6(rest:List aa)(C:Addr):nj (Code.weight (.builtin "type.__call__" ⟨.ref C::rest,[]⟩)) 3=true:=by kernel_rfl
section
variable{prog:k9}{w:b3}{A:bz}{C:Addr}{R:ly→ai→Prop}{h:Heap}{g:Array yp}{d:Drawn}{t:Nat}{os:b5}
theorem HD{rest:List aa}{init:aa}(Y:Makes (model prog w) h C)(hi:A0a (model prog w) h (ju (.ref C) "__init__") (some init))
  (hb:∀self,A0a (model prog w) h (bindSpecial init self) (init,[self])) (hne:(some init !=some (ym "object.__init__"))=true)
  (hq:ZU (model prog w) (A.under (.builtin "type.__call__" ⟨.ref C::rest,[]⟩)) (.call init ⟨.ref (h.objs.size+1)::rest,[]⟩) (InitBack (h.objs.size+1) R) ⟨(h.push emptyDict).push (instObj C h.objs.size),g,d,t,os⟩):
  ZU (model prog w) A (.call (.ref C) ⟨rest,[]⟩) R ⟨h,g,d,t,os⟩:=by
 have Y':=Y
 refine aj fun hn=> ?_
 obtain⟨⟨oc,od,cd,sl,hC,e1,e2,e4⟩,made,base,self,top,call,typ⟩:=Y
 refine hn (Z3 ?_)
 show Zh _ _ (A0S (.ref C) _) _ _ _
 show Zh _ _ (A0S (.ref C) _) _ _ _
 unfold A0S
 refine Zb (up (nu hC ?_))
 dsimp only
 unfold callAny.viaDunder
 refine Zb (up (call.at ?_))
 dsimp only
 rw[tc_bind]
 refine Zb (Zc (Zb (Zc ?_)))
 refine Zc (a:=Fin.again (.call (.builtin "type.__call__") ⟨.ref C::rest,[]⟩)) ⟨rfl,rfl,?_⟩
 refine Z3 ?_
 rw[show A.under (.call (.builtin "type.__call__") ⟨.ref C::rest,[]⟩)=A.in1 from sy (by rfl) rfl]
 show Zh _ A.in1 (do jb "type.__call__" ⟨.ref C::rest,[]⟩;again (.builtin "type.__call__" ⟨.ref C::rest,[]⟩)) _ _ _
 refine Zb (up (check_slot tc_kind tc_split typ (tc_args _ _ _) ?_))
 refine Zc ⟨tf _ (by decide+kernel),Si (by decide+kernel),Z3 ?_⟩
 rw[GW entry_typeCall]
 unfold jt.«type.__call__»
 have hm:A0a (model prog w) h (mroOf (.ref C)) cd.mro:=((Looks.ld (part:=none) hC).andThen .now).andThen .now
 refine Yi (by simp) ?_
 dsimp only
 refine Zb (up (hm.at ?_))
 refine Yi (by rw[e4];decide) ?_
 refine Zb (up (made.at ?_))
 dsimp only
 refine Zb (Zc ?_)
 refine Zb (Zd (up (uu (new_K Y' hi (.inl hne) ?_))))
 have k:∀b o,h.get? b=some o→((h.push emptyDict).push (instObj C h.objs.size)).get? b=some o:=fun b o e=>au _ (au _ e)
 have hx:((h.push emptyDict).push (instObj C h.objs.size)).get? (h.objs.size+1)=some (instObj C h.objs.size):=by
  have:=b9 (h.push emptyDict) (o:=instObj C h.objs.size) rfl
  rw[ud] at this;exact this
 have t1:A0a (model prog w) ((h.push emptyDict).push (instObj C h.objs.size)) (typeOf (.ref (h.objs.size+1))) (.ref C):=(Looks.ld hx).andThen .now
 have s1:=self.keeps k
 have i1:=hi.keeps k
 have b1:=(hb (.ref (h.objs.size+1))).keeps k
 unfold isInstance callSpecial? specialOf
 refine Zb (Zb (up (t1.at ?_)))
 refine up (s1.at ?_)
 refine Yi (by decide) ?_
 refine Zb (Zd ?_)
 refine Zb (Zb (up (t1.at ?_)))
 refine up (i1.at ?_)
 dsimp only
 refine Zd (Zb (up (b1.at ?_)))
 dsimp only
 refine Zb (XD (Q5 hq fun r s' z=> ?_))
 rcases r with e|(v|_|_|_)<;>first|exact z|exact z.elim|skip
 refine aj fun hn=> ?_
 obtain⟨rfl,z⟩:=z
 refine hn (Zc ?_)
 refine Yi (by decide) ?_
 exact Zc z
end
inductive vX(w:b3)(C:Addr)(fl:List Str)(P:Addr→Addr→Str→aa→Heap→Prop)(s:ai)(cv:aa)(s':ai):Prop
 |mk (x D:Addr) (es:List dw) (n:Nat) (vs:List aa) (e:cv= .ref x) (nx:s.heap.get? x=none) (nd:s.heap.get? D=none) (dx:D≠x) (k:KS s s') (gx:s'.heap.get? x=some (Yy C D)) (gd:s'.heap.get? D=some (ZA es n)) (p:jU (P x D) s'.heap fl vs) (r:ZT w fl vs es)
structure InF(sc:eg)(RJ:List Str)(vs:List aa)(ce:Env)(m:Str→Option aa):Prop where
 sc:ce.scope=sc
 gl:ce.globals=mainGlobals
 bl:ce.builtins=builtinsNs
 kind:ce.scope.kind= .function
 at_:∀y v,(y,v)∈RJ.zip vs→ce.kindOf y=some .local∧m y=some v∧(y==("__debug__":Str))=false
section
variable{w:b3}{A:bz}{R:ly→ai→Prop}{s:ai}
theorem Rf{P:b7}{g:Option aa}{fd:jh}{f C:Addr}{fl RJ:List Str}{o:Obj}{vs:List aa}{p:Str→Expr→Bool}{V:Addr→Addr→Str→aa→Heap→Prop}(hd:A.depth+10<1000)(G:aS p (KF P) g fd f C RJ fl)(F:Yt P f fd o (bodyOf fd) ("self"::RJ))(X:(KF P).In s.heap)(hlim:s.heap.NoLimit)(hl:vs.length=RJ.length)
  (hP:∀x D n v h h',(∀b o,b≠D→h.get? b=some o→h'.get? b=some o)→V x D n v h→V x D n v h')
  (hev:∀ce m x D A',InF fd.scope RJ vs ce m→s.heap.get? x=none→s.heap.get? D=none→∀n e,n∈fl→p n e=true→EvC w A' ce m s.heap x D e (V x D n))
  (hR:∀cv s',vX w C fl V s cv s'→R (.ok (.ret cv)) s'):ZU (model pw w) A (.call (.ref C) ⟨vs,[]⟩) R s:=by
 cases s with|mk hh gs d t os=>
 have n0:=Zs hh
 have n1:hh.get? (hh.objs.size+1)=none:=l9 (pq _)
 have k1:∀b o,hh.get? b=some o→((hh.push emptyDict).push (instObj C hh.objs.size)).get? b=some o:=fun b o e=>au _ (au _ e)
 have eD:((hh.push emptyDict).push (instObj C hh.objs.size)).get? hh.objs.size=some (ZA [] 0):=au _ (b9 _ rfl)
 have eX:((hh.push emptyDict).push (instObj C hh.objs.size)).get? (hh.objs.size+1)=some (Yy C hh.objs.size):=by
  have e:=b9 (hh.push emptyDict) (o:=instObj C hh.objs.size) rfl
  rw[ud] at e
  exact e
 refine HD (makes_of X G.mks) (uf X G.find) (fun self=>bind_fn X self G.ty) rfl ?_
 generalize (hh.push emptyDict).push (instObj C hh.objs.size)=H at k1 eD eX
 have X':(KF P).In H:=fun a o e=>k1 a o (X a o e)
 have hl':(gw (hh.objs.size+1)::vs).length=(("self":Str)::RJ).length:=congrArg (· +1) hl
 have keys:=WW hl'
 refine X8 (s:=⟨H,gs,d,t,os⟩) (binds:=(("self":Str)::RJ).zip (.ref (hh.objs.size+1)::vs)) (bq (d9 (cw (V6 vs C)) A.depth) (bq (d9 (by decide) _) hd)) (X' _ _ F.look) F.data (hlim.keeps k1) (A0D X' F.code) F.body (kp_binds X' fun S=>F.binds S _ hl') F.clo
  (fun y hy=> .inl (G.loc y.1 (keys▸ku.mpr ⟨y,hy,rfl⟩)).1) (fun s₁ x=> ?_) F.co F.gen F.kind
 obtain⟨h₁,tk,e,kk⟩:=x.done
 subst e
 have N:=AN F x kk
 have nd:((("self":Str)::RJ).zip (gw (hh.objs.size+1)::vs)).map (·.1)|>.Nodup:=by rw[keys];exact WV G.nd
 have at_:∀y v,(y,v)∈(("self":Str)::RJ).zip (.ref (hh.objs.size+1)::vs)→(callEnvC fd H.objs.size f).kindOf y=some .local∧bindL (callEnvC fd H.objs.size f).kindOf ((("self":Str)::RJ).zip (.ref (hh.objs.size+1)::vs)) (fun _=>none) y=some v∧(y==("__debug__":Str))=false:=fun y v hy=>
  have q:=G.loc y (keys▸ku.mpr ⟨(y,v),hy,rfl⟩)
  ⟨q.1,J5 q.1 nd hy,q.2⟩
 have ne:∀{b o},hh.get? b=some o→b≠hh.objs.size:=fun e q=>Zj n0 e q.symm
 refine Zi (Dh (E:=fun _ _=>False) (ce:=callEnvC fd H.objs.size f) (x:=hh.objs.size+1) (Cc:=C) (Da:=hh.objs.size) (s:=⟨h₁,gs,d,tk,os⟩) (dn:=[]) (dv:=[]) (h0:=hh) (P:=V (hh.objs.size+1) hh.objs.size) (p:=p) ⟨F.kind,(at_ _ _ (.head _)).1,(at_ _ _ (.head _)).2.1,fun a o e q=>ne (X a o e) q,ir (gp _),fun q=>Zj (Zs H) eD q.symm⟩ n0 (hP _ _)
  (hev _ _ _ _ _ ⟨rfl,F.gl,F.bl,F.kind,fun y v hy=>at_ y v (.tail _ hy)⟩ n1 n0) G.body N.ns (fun a o e=>kk _ _ (X' a o e)) (fun b o e=>kk _ _ (k1 b o e)) (kk _ _ eX) (kk _ _ eD) .nil (WV G.ndf) G.st (ao G.z (by decide)) (R:=fun fl s'=>fl= .next∧R (.ok (.ret (.ref (hh.objs.size+1)))) s') fun h' tk es' n' vs q1 q2 q4 q3=>⟨rfl,hR _ _ ⟨_,_,es',n',vs,rfl,n1,n0,ir (gp _),⟨h',tk,rfl,fun b o e=>q1 b o (ne e) (kk _ _ (k1 _ _ e))⟩,q1 _ _ (Nat.succ_ne_self _) (kk _ _ eX),q2,q4,q3⟩⟩) (fun f s' q=> ?_) fun _ _ q=>q.elim
 cases q.1
 exact⟨rfl,q.2⟩
end
section
variable{M:o8}{A:bz}{E:aa→ai→Prop}{s:ai}
theorem XT{prog:k9}{w:b3}{K:Frag}{pos:Pos}{C:Addr}{args:List (Bool × Sem aa)}{Q:aa→ai→Prop}(hm:makesIn K C=true)(hplain:args.any (·.1)=false)
  (h:Zh (model prog w) A (yr (.ref C) true args []) (fun x s₁=>K.In s₁.heap∧Zh (model prog w) A (PySem.call (.ref C) x.pos x.kw) Q E s₁) E s):Zh (model prog w) A (callWith pos (.ref C) [] args []) Q E s:=by
 unfold callWith
 refine Ze (Zd h) fun x s₁ h₁=>Zp ?_
 rw[hplain]
 have Y:=makes_of (M:=model prog w) h₁.1 hm
 refine aj fun hn=> ?_
 obtain⟨oc,od,cd,sl,hC,_⟩:=Y.obj
 exact hn (Zb (m:=keeperOf (.ref C)) (Zb (up (nu hC (Zb (up (Y.call.here (Zc (WC h₁.2)))))))))
end
theorem Fz{ns:List Str}{vs:List aa}(h:vs.length=ns.length){n:Str}(hn:n∈ns):∃v,(n,v)∈ns.zip vs:=by
 rw[← WW h] at hn
 exact(ku.mp hn).elim fun p q=>⟨p.2,q.2▸q.1⟩
theorem jU.imp{P Q:Str→aa→Heap→Prop}{h:Heap}{ns:List Str}{us:List aa}(p:jU P h ns us)(k:∀n v,n∈ns→P n v h→Q n v h):jU Q h ns us:=by
 induction p with
 |nil=>exact .nil
 |cons a _ ih=>exact .cons (k _ _ (.head _) a) (ih fun n v m=>k n v (.tail _ m))
theorem Fy{h:Heap}{ns:List Str}{vs us:List aa}(nd:ns.Nodup)(hl:vs.length=ns.length)(p:jU (fun n v _=>(n,v)∈ns.zip vs) h ns us):us=vs:=by
 induction ns generalizing vs us with
 |nil=>
  cases RL hl
  cases p
  rfl
 |cons n ns ih=>
  obtain⟨v,r,e,hr⟩:=Yo hl
  subst e
  have nd:=se.mp nd
  have out:∀{u},(n,u)∉ns.zip r:=fun m=>nd.1 (by rw[← WW hr];exact ku.mpr ⟨_,m,rfl⟩)
  cases p with
  |cons a p=>
   have e1:=(ay.mp a).resolve_right out
   cases e1
   exact congrArg _ (ih nd.2 hr (p.imp fun m u hm q=>(ay.mp q).resolve_left fun e=>nd.1 (by cases e;exact hm)))
section
variable{C:Cx}{c:Cf}{ν:List Addr}{env:Ev}{st:St}{s s':ai}{X:Xp}
theorem HE{x:Str}{k:Nat}(h:Qs x=some k):k<3∧x=aV k:=by
 exact Yk h (fun e q=>by cases e;cases q;exact⟨by decide,rfl⟩) fun h=>Yk h (fun e q=>by cases e;cases q;exact⟨by decide,rfl⟩) fun h=>Yk h (fun e q=>by cases e;cases q;exact⟨by decide,rfl⟩) fun h=>no h
theorem Vx{x:Str}{p:Pos}{a:Addr}{A:bz}{E:aa→ai→Prop}{R:aa→ai→Prop}(ok:c.Ok)(i:c.I ν env st s)(hg:Xl c.ce.scope c.nm x=true)(hx:(HF c.w.params).nsMap mainGlobals x=some (.ref a))(hR:R (.ref a) s):wpAny c.M A (eval (.Name x p) c.ce) R E s:=
 j8 ok.kind (Yd hg).k (qu (ok.globals▸Vr i) hx hR) (Yd hg).d
theorem Fx{x:Str}{p pos:Pos}{es:List Expr}{k:Nat}{a:PE}(ok:c.Ok)(hg:Xl c.ce.scope c.nm x=true)(hx:Qs x=some k)(hn:noStar es=true)(h1:YD C c ν es a):ZL C c ν (.Call (.Name x p) es [] pos) (.inst k a):=fun env st Q X s i hq=>by
 obtain⟨hk,e⟩:=HE hx
 subst e
 have I:=HB c.w.params hk
 refine Z8 (up (Vx ok i hg I.g.g (XT (K:=KF c.w.params) I.g.mks (plain_any hn) (Yu (plain_any hn) ((h1 _ _ _ _ _ _ i hq).then fun svs cvs st1 s1 q1 r1 i1 g1=>⟨i1.K,?_⟩)))))
 refine W5 q1 fun l hl q=> ?_
 have rd:=W4 hl r1
 have z:=mu (both (Uy q).1).1
 have hl:cvs.length=(UY k).length:=rd.length.symm.trans (z.trans (aq ..).symm)
 refine XD (Rf (V:=fun _ _ n v _=>(n,v)∈(UY k).zip cvs) (bq (l8 (br _ _) (by decide)) ok.depth) I.g I.f i1.K (i1.lim.keeps i1.stays) hl (fun _ _ _ _ _ _ _ h=>h) (fun ce m x D A' f _ _ n e hn hp=> ?_) fun cv s' y=> ?_)
 ·obtain⟨p,e⟩:=Zt hp
  subst e
  obtain⟨v,hv⟩:=Fz hl hn
  have a:=f.at_ n v hv
  exact fun s E _ hN _=>up (uv (j7 f.kind a.1 hN a.2.1 ⟨KS.refl s|>.trans (KS.tok s _),hv⟩) a.2.2)
 cases y with|mk xa Da es' n vs e e1 e2 dx kk e3 e4 pv e5=>
 subst e
 have ev:=Fy (WV I.g.ndf) hl pv
 subst ev
 exact⟨.d (.inst k l),st1,(Uy q).2,.inst e3 (fun q=>i1.ZE e1 q rfl) e4 (fun q=>i1.ZE e2 q rfl) e5 (rd.keeps kk.keeps),i1.ks kk,g1.trans kk.go⟩
end
end
section
open PyProof.Rows PySem PySem.Calls PySem.SeqAt PySem.W
noncomputable def Ll(fd:jh):List Str:=fd.params.args.map (·.arg)
noncomputable def tgS(s:Stmt):List Str:=match s with
 | .Assign ts _ _=>ts.flatMap Uc
 | .For t _ _ _ _=>Uc t
 |_=>[]
noncomputable def locs:Nat→List Stmt→List Str
 |0,_=>[]
 |n+1,l=>l.flatMap fun s=>tgS s++(nB s).flatMap (locs n)
noncomputable def Ae1(a:List Str)(x:Str):List Str:=cond (a.contains x) a (a++[x])
noncomputable def jY(fd:jh):NM:=have l:=(locs 60 (bodyOf fd)).foldl Ae1 (Ll fd);l.zip (fu l.length)
noncomputable def aX(K:Frag)(f:Addr):PS:=WZ (tr 200) (fdOf K f).scope (jY (fdOf K f)) (ownNames 60 (bodyOf (fdOf K f))) 60 (bodyOf (fdOf K f))
noncomputable def aW(K:Frag)(f:Addr)(e:Ent):Bool:=V5 K f&&(RK (fdOf K f).scope (jY (fdOf K f)) (Ll (fdOf K f))&&qp (Ll (fdOf K f)).length e.np)
theorem AbE(P:b7):QD.map (fun p=>aX (KF P) p.1)=QD.map (fun p=>p.2.p):=by kernel_rfl
theorem jZ(P:b7):QD.all (fun p=>aW (KF P) p.1 p.2)=true:=by kernel_rfl
noncomputable def HG(K:Frag)(S:jw)(f:Addr)(vs:List aa):Option (List (Str × aa)):=peek K S (m6 (fdOf K f) ⟨vs,[]⟩)
noncomputable def aY(K:Frag)(f:Addr)(vs:List aa):List (Str × aa):=(Ll (fdOf K f)).zip vs
abbrev xZ(P:b7)(S:jw)(vs:List aa):Prop:=(QD.filter fun p=>p.2.np==vs.length).map (fun p=>HG (KF P) S p.1 vs)=(QD.filter fun p=>p.2.np==vs.length).map (fun p=>some (aY (KF P) p.1 vs))
theorem Ae2(P:b7)(S:jw)(a:aa):xZ P S [a]:=by kernel_rfl
theorem Ae6(P:b7)(S:jw)(a b:aa):xZ P S [a,b]:=by kernel_rfl
theorem Ae3(P:b7)(S:jw)(a b c:aa):xZ P S [a,b,c]:=by kernel_rfl
theorem Ae4(P:b7)(S:jw)(a b c d:aa):xZ P S [a,b,c,d]:=by kernel_rfl
theorem Ae5(P:b7)(S:jw)(a b c d e:aa):xZ P S [a,b,c,d,e]:=by kernel_rfl
theorem few(P:b7):QD.all (fun p=>nj 1 p.2.np&&nj p.2.np 5)=true:=by kernel_rfl
theorem AbH{P:b7}{S:jw}{vs:List aa}(h1:1≤vs.length)(h5:vs.length≤5):xZ P S vs:=by
 cases vs with
 |nil=>exact absurd h1 (v8 0)
 |cons a vs=>cases vs with
  |nil=>exact Ae2 P S a
  |cons b vs=>cases vs with
   |nil=>exact Ae6 P S a b
   |cons c vs=>cases vs with
    |nil=>exact Ae3 P S a b c
    |cons d vs=>cases vs with
     |nil=>exact Ae4 P S a b c d
     |cons e vs=>cases vs with
      |nil=>exact Ae5 P S a b c d e
      |cons f vs=>exact absurd h5 (Nat.not_le_of_gt (n9 6 vs.length))
theorem PW{K:Frag}{f:Addr}(h:V5 K f=true):Sf K f=true:=by
 obtain⟨o,ho,h⟩:=Zg h
 obtain⟨fd,hf,h⟩:=Zg h
 show(K.lookup f).any Nr=true
 rw[ho]
 show Nr o=true
 unfold Nr
 rw[aJ hf]
structure AbG(P:b7)(f:Addr)(e:Ent):Prop where
 t:aX (KF P) f=e.p
 ff:Yt P f (fdOf (KF P) f) (objOf (KF P) f) (bodyOf (fdOf (KF P) f)) (Ll (fdOf (KF P) f))
 s:RK (fdOf (KF P) f).scope (jY (fdOf (KF P) f)) (Ll (fdOf (KF P) f))=true
 n:(Ll (fdOf (KF P) f)).length=e.np
 o:Sf (KF P) f=true
theorem vY{P:b7}{L:List (Nat × Ent)}(h1:L.map (fun p=>aX (KF P) p.1)=L.map (fun p=>p.2.p))(h2:L.all (fun p=>aW (KF P) p.1 p.2)=true)(h3:L.all (fun p=>nj 1 p.2.np&&nj p.2.np 5)=true)
  (h4:∀(S:jw) (vs:List aa),1≤vs.length→vs.length≤5→(L.filter fun p=>p.2.np==vs.length).map (fun p=>HG (KF P) S p.1 vs)=(L.filter fun p=>p.2.np==vs.length).map (fun p=>some (aY (KF P) p.1 vs))) {f:Addr} {e:Ent} (h:L.lookup f=some e):AbG P f e:=by
 have m:=lookup_mem h
 have g1:(V5 (KF P) f&&(RK (fdOf (KF P) f).scope (jY (fdOf (KF P) f)) (Ll (fdOf (KF P) f))&&qp (Ll (fdOf (KF P) f)).length e.np))=true:=az.mp h2 (f,e) m
 have w1:(nj 1 e.np&&nj e.np 5)=true:=az.mp h3 (f,e) m
 have t:aX (KF P) f=e.p:=Pw (f:=fun p:Nat × Ent=>aX (KF P) p.1) (g:=fun p=>p.2.p) (x:=(f,e)) h1 m
 have g:=both g1
 have n:=mu (both g.2).2
 have w:=both w1
 refine⟨t,YX g.1 fun S vals hl=> ?_,(both g.2).1,n,PW g.1⟩
 have e:=hl.trans n
 exact Pw (f:=fun p:Nat × Ent=>HG (KF P) S p.1 vals) (g:=fun p=>some (aY (KF P) p.1 vals)) (x:=(f,_)) (h4 S vals (e▸cw w.1) (e▸cw w.2)) (List.mem_filter.mpr ⟨m,beq_iff_eq.mpr e.symm⟩)
theorem AbI(P:b7){f:Addr}{e:Ent}(h:QD.lookup f=some e):AbG P f e:=vY (AbE P) (jZ P) (few P) (fun S vs a b=>AbH a b) h
def F0(C:Cx)(r:Nat):Prop:=∀(c:Cf),c.Ok→c.r=r→∀x p pos cp es k a,Xl c.ce.scope c.nm x=true→J9 x=some k→noStar es=true→(∀ν,YD C c ν es a)→ZJ C c (.Raise (some (.Call (.Name x p) es [] cp)) none pos) (.raise k a)
theorem HH{r:Nat}(h:XA (Cp QD r) r)(HR:F0 (Cp QD r) r):ET (Cp QD r) r:=
 {calls:=h,inst:=fun c ν ok _ x p pos es k a h1 h2 h3 h4=>Fx ok h1 h2 h3 h4,sub:=fun c ν ok _ v s pos k a h1 h2 h3=>Fw rfl ok h1 h2 h3,inE:=fun c ν ok _ l r pos k a h1 h2=>aH rfl ok h1 h2,raise:=HR}
theorem aZ(HR:∀r,F0 (Cp QD r) r)(r:Nat):XA (Cp QD r) r:=by
 induction r with
 |zero=>exact fun c ν env st s f vs cvs Q X ok hr i rs hq=>hq.un.elim
 |succ r ih=>
  intro c ν env st s f vs cvs Q X ok hr i rs hq
  refine Zw hq.un fun e he hq=> ?_
  have F:=AbI c.w.params he
  have z:=both (Zk hq).1
  refine⟨F.o,ER F.ff F.s ok hr i rs ((mu z.1).trans F.n.symm) z.2 (fun c' ok' w' e1 e2 e3 e4=> ?_) (F.t.symm▸(Zk hq).2)⟩
  exact Qu (HH ih (HR r)) (Fj (HH ih (HR r)).toHyp 200) c' ok' w' e3 e1 e2 _
end
section
open PySem PySem.W
set_option backward.match.sparseCases true
section
open Sem (wp)
structure RM(B newId initId:String)(bm:List aa):Prop extends ExcCallFacts B newId initId where
 newSplit:splitId newId=some (B,"__new__")
 newKind:builtinKind newId=some .builtinFn
 newRow:Manifest.signature? newId=some ⟨.any,B,B,.cls,[⟨"args",.varPos,false⟩,⟨"kwargs",.varKw,false⟩]⟩
 hasB:bm.contains (.type B)=true
 hasBase:bm.contains (.type "BaseException")=true
 noAttr:bm.contains (.type "AttributeError")=false
 noName:bm.contains (.type "NameError")=false
 canon:A0F newId=A0F "BaseException.__new__"
theorem RM.of{B newId initId:String}{bm bm':List aa}(F:ExcBaseFacts B newId initId bm')(h1:bm.contains (.type B)=true)(h2:bm.contains (.type "BaseException")=true)(h3:bm.contains (.type "AttributeError")=false)(h4:bm.contains (.type "NameError")=false):RM B newId initId bm:=
 {toExcCallFacts:=F.toExcCallFacts,newSplit:=F.newSplit,newKind:=F.newKind,newRow:=F.newRow,hasB:=h1,hasBase:=h2,noAttr:=h3,noName:=h4,canon:=F.canon}
section
variable{M:o8}{A:bz}{E:aa→ai→Prop}{h:Heap}{g:Array yp}{d:Drawn}{t:Nat}{os:b5}
variable{nm q:Str}{C N:Addr}{bs bm:List aa}{hdct:Bool}{sn:List Str}{sub:List aa}{ab:Bool}{col:Option Bool}{dd:Option Addr}{k0 k1 k2 k3 k5:Option aa}{B newId initId:String}
theorem OL(F:RM B newId initId bm){rest:List aa}{Q:Unit→ai→Prop}(hC:h.get? C=some (tn nm q C N bs bm hdct sn sub ab col dd k0 k1 k2 k3 k5 newId))
  (hq:Q () ⟨h,g,d,t,os⟩):wpAny M A (jb newId ⟨.ref C::rest,[]⟩) Q E ⟨h,g,d,t,os⟩:=by
 have hcont:(gw C::bm).contains (.type B)=true:=by rw[jz,F.hasB,u9]
 have hstar:=F.noStar
 simp only[jb,F.newKind,F.newSplit,F.newRow]
 repeat (first|refine jf hC ?_|(refine o9 hC ?_;rw[hcont])|refine wpAny_staticBase_exc hC ?_|refine wpAny_madeBy_exc hC ?_|simp only[bne_self_eq_false,sf,if_false]|wp_step)
 exact hq
end
section
variable{prog:k9}{w:b3}{A:bz}{R:ly→ai→Prop}{h:Heap}{g:Array yp}{d:Drawn}{t:Nat}{os:b5}
variable{nm q:Str}{C N:Addr}{bs bm:List aa}{hdct:Bool}{sn:List Str}{sub:List aa}{ab:Bool}{col:Option Bool}{dd:Option Addr}{k0 k1 k2 k3 k5:Option aa}{B newId initId:String}
theorem kB(F:RM B newId initId bm){rest:List aa}(hC:h.get? C=some (tn nm q C N bs bm hdct sn sub ab col dd k0 k1 k2 k3 k5 newId))
  (hq:R (.ok (.ret (.ref (h.objs.size+1)))) ⟨(h.push {cls:= .type "tuple",data:= .seq rest.toArray}).push
   {cls:= .ref C,data:= .fields #[.ref h.objs.size,.none,.none,.none,.bool false,.none]},g,d,t,os⟩) (hrest:rest.length≤sizeLine):
  codeAny (model prog w) A (.builtin newId ⟨.ref C::rest,[]⟩) R ⟨h,g,d,t,os⟩:=by
 have hends:=F.ends
 have hcB:(gw C::bm).contains (.type B)=true:=by rw[jz,F.hasB,u9]
 have hcA:(gw C::bm).contains (.type "AttributeError")=false:=by rw[jz,F.noAttr];rfl
 have hcN:(gw C::bm).contains (.type "NameError")=false:=by rw[jz,F.noName];rfl
 refine codeAny_builtinAt F.entry ?_
 unfold jt.«BaseException.__new__»
 refine wpAt_bind ?_
 show wpAt _ _ _ (stack>>=_) _ _ _
 refine wpAt_bind (wpAt_stack fun p below=>wpAt_of_wpAny ?_)
 wp_walk
 refine wpAt_of_wpAny ?_
 rw[F.owner]
 repeat (first|with_reducible refine wpAny_madeHere_exc F.canon hC ?_|with_reducible refine jf hC ?_|(with_reducible refine o9 hC ?_;first|rw[hcB]|rw[hcA]|rw[hcN])|wp_step)
 show R _ _
 rw[ud]
 exact hq
end
section
variable{prog:k9}{w:b3}{A:bz}{E:aa→ai→Prop}{h:Heap}{g:Array yp}{d:Drawn}{t:Nat}{os:b5}
variable{nm q:Str}{C N:Addr}{bs bm:List aa}{hdct:Bool}{sn:List Str}{sub:List aa}{ab:Bool}{col:Option Bool}{dd:Option Addr}{k0 k1 k2 k3 k5:Option aa}{B newId initId:String}
theorem OK(F:RM B newId initId bm){rest:List aa}{fI:Addr}{oI:Obj}{Q:Fin→ai→Prop}
  (hC:h.get? C=some (tn nm q C N bs bm hdct sn sub ab col dd k0 k1 k2 k3 k5 newId)) (hi:A0a (model prog w) h (ju (.ref C) "__init__") (some (.ref fI)))
  (hfI:h.get? fI=some oI) (hfc:oI.cls= .type "function")
  (hq:∀h' e,Heap.MadeExcOf h h' e (.ref C) rest→
   wpAny (model prog w) A (call (.ref fI) (.ref e::rest)) (fun r s'=>r= .none∧Q (.done (.ret (.ref e))) s') E ⟨h',g,d,t,os⟩) (hrest:rest.length≤sizeLine):
  wpAny (model prog w) A (jt.«type.__call__» ⟨.ref C::rest,[]⟩) Q E ⟨h,g,d,t,os⟩:=by
 repeat (first|with_reducible refine jf hC ?_|with_reducible refine wpAny_madeBy_exc hC ?_|wp_step)
 refine codeAny_call_builtin_code (tf _ F.quiet) (OL F hC ?_)
 refine kB F hC ?_ hrest
 show wpAny _ _ _ _ _ _
 have kk:∀b o,h.get? b=some o→((h.push {cls:= .type "tuple",data:= .seq rest.toArray}).push {cls:= .ref C,data:= .fields #[.ref h.objs.size,.none,.none,.none,.bool false,.none]}).get? b=some o:=fun b o e=>au _ (au _ e)
 have hC₁:=kk _ _ hC
 have hfI₁:=kk _ _ hfI
 have hget:((h.push {cls:= .type "tuple",data:= .seq rest.toArray}).push
   {cls:= .ref C,data:= .fields #[.ref h.objs.size,.none,.none,.none,.bool false,.none]}).get? (h.objs.size+1)=some
   {cls:= .ref C,data:= .fields #[.ref h.objs.size,.none,.none,.none,.bool false,.none]}:=by heap_get
 have hcC:(gw C::bm).contains (.ref C)=true:=by simp
 unfold isInstance
 repeat (first|with_reducible refine jf hget ?_|(with_reducible refine o9 hC₁ ?_;rw[hcC])|wp_step)
 show wpAny _ _ (ju (.ref C) _) _ _ _
 refine(hi.keeps kk).at ?_
 refine o5 (ak ?_)
 unfold bindSpecial
 refine ak (wpAny_typeOf (T:="function") ⟨_,hfI₁,hfc⟩ ?_)
 rw[if_pos (by decide)]
 refine bg (ak (o4 (hq _ (h.objs.size+1) ⟨fun b o hb=>au _ (au _ hb),l9 (pq _),h.objs.size,hget,l9 (ew _),?_⟩) (fun r s' hr=> ?_) fun _ _ x=>x))
 ·exact au _ (Heap.get?_push_at rfl rfl)
 ·obtain⟨rfl,hQ⟩:=hr
  wp_walk
  exact hQ
theorem bA(F:RM B newId initId bm){rest:List aa}{fI:Addr}{oI:Obj}{Q:aa→ai→Prop}
  (hC:h.get? C=some (tn nm q C N bs bm hdct sn sub ab col dd k0 k1 k2 k3 k5 newId)) (hi:A0a (model prog w) h (ju (.ref C) "__init__") (some (.ref fI)))
  (hfI:h.get? fI=some oI) (hfc:oI.cls= .type "function")
  (hq:∀h' e,Heap.MadeExcOf h h' e (.ref C) rest→
   wpAny (model prog w) (A.under (.builtin "type.__call__" ⟨.ref C::rest,[]⟩)) (call (.ref fI) (.ref e::rest)) (fun r s'=>r= .none∧Q (.ref e) s') E ⟨h',g,d,t,os⟩) (hrest:rest.length≤sizeLine):
  wpAny (model prog w) A (call (.ref C) rest) Q E ⟨h,g,d,t,os⟩:=by
 have f1:=tc_lookup
 have f2:=tc_bind (.ref C)
 have hT:(⟨h,g,d,t,os⟩:ai).TypeIs (.ref C) "type":=⟨_,hC,rfl⟩
 refine uu (vp ?_)
 show wpAny _ _ (A0S (.ref C) _) _ _ _
 repeat (any_goals (first|assumption|with_reducible refine jf hC ?_|wp_step))
 refine⟨rfl,?_⟩
 refine codeAny_call_builtin_at (tf _ (by decide+kernel)) entry_typeCall (wpAny_check_type_call_sub hC (OK (hrest:=hrest) F hC hi hfI hfc fun h' e hm=> ?_))
 exact hq h' e hm
end
end
end
section
open PyProof.Rows PySem PySem.Builtin PySem.Builtin.ObjectAttr PySem.Calls PySem.SeqAt PySem.W
noncomputable def Lm:aa→Bool
 | .ref _=>true
 |_=>false
theorem Di{v:aa}(h:Lm v=true):∃a,v= .ref a:=by
 cases v with
 |ref a=>exact⟨a,rfl⟩
 |_=>exact nomatch h
noncomputable abbrev HJ:List aa:=[.type "Exception",.type "BaseException",.type "object"]
noncomputable def UZ:List aa→Bool
 |[]=>false
 |v::r=>cond (Lm v) (UZ r) (v::r==HJ)
theorem NI{P:List aa→Prop}(h0:P HJ)(h1:∀a r,P r→P (.ref a::r)){l:List aa}(e:UZ l=true):P l:=by
 induction l with
 |nil=>exact ff e
 |cons v r ih=>
  have e:cond (Lm v) (UZ r) (v::r==HJ)=true:=e
  cases q:Lm v with
  |true=>
   rw[q] at e
   exact(Di q).elim fun a w=>w▸h1 a r (ih e)
  |false=>
   rw[q] at e
   exact beq_iff_eq.mp e▸h0
theorem HK(self:aa){l:List aa}(e:UZ l=true):refuseLoop self "__setattr__" l=pure ():=NI (P:=fun l=>refuseLoop self "__setattr__" l=pure ()) (PySem.F.store_Exception.passes self) (fun a r ih=>(refuseLoop_ref ..).trans ih) e
theorem F4{l:List aa}(e:UZ l=true):l.contains (.type "object")=true∧l.isEmpty=false:=NI (P:=fun l=>l.contains (.type "object")=true∧l.isEmpty=false) ⟨by decide,rfl⟩ (fun a r ih=>⟨by rw[jz,ih.1,u9],rfl⟩) e
noncomputable def YG(K:Frag)(C:Addr)(name:Str):Bool:=findIn K (.ref C) "__setattr__"==some (some (.builtin "object.__setattr__"))&&((clsIn K C).any (fun cd=>UZ cd.mro&&cd.hasDict)&&takerIn K C name==some none)
noncomputable abbrev PX(C:Addr)(dd:Option Addr)(vs:Array aa):Obj:=⟨.ref C,dd,.fields vs,#[]⟩
section
variable{w:b3}{A:bz}{E:aa→ai→Prop}{s:ai}{K:Frag}
inductive Ae7(K:Frag)(C:Addr)(name:Str):Prop
 |mk (cd:ClassData) (f:findIn K (.ref C) "__setattr__"=some (some (.builtin "object.__setattr__"))) (c:clsIn K C=some cd) (m:UZ cd.mro=true) (d:cd.hasDict=true) (t:takerIn K C name=some none)
theorem vZ{C:Addr}{name:Str}(h:YG K C name=true):Ae7 K C name:=by
 obtain⟨cd,hc,hd⟩:=Zg (both (both h).2).1
 exact⟨cd,beq_iff_eq.mp (both h).1,hc,(both hd).1,(both hd).2,beq_iff_eq.mp (both (both h).2).2⟩
theorem F1{R:ly→ai→Prop}{ox:Obj}{od:Option Obj}{name:Str}{tk:Tok}{v:aa}{x C:Addr}(X:K.In s.heap)(I:InstAt s.heap x ox C od)(hs:YG K C name=true)
  (h:∀b,wpAny (model pw w) A.in1 (storeInOwnDict (.ref x) (.ref C) (.str name tk) name v b)
   (fun fin s'=>match fin with| .done f=>R (.ok f) s'| .again c'=>c'.quiet=true∧codeAny (model pw w) A c' R s') (fun e s'=>R (.error e) s') s):
  codeAny (model pw w) A (.call (.builtin "object.__setattr__") ⟨[.ref x,.str name tk,v],[]⟩) R s:=by
 refine aj fun hn=> ?_
 cases vZ hs with|mk cd _ hc ho _ ht=>
 have SF:=PySem.F.store_object
 have sub:A0a (model pw w) s.heap (isInstance (.ref x) (.type "object")) true:=I.type.andThen (looks_mroIn X (by
  unfold mroIn
  rw[hc,A1p,if_neg (by
   rw[(F4 ho).2]
   decide),(F4 ho).1]))
 refine hn (v9 SF.slot.plain SF.entry (@check_slot (model pw w) _ _ s "object.__setattr__" "object" "__setattr__" (.ref x) [.str name tk,v] [] _ SF.kind SF.split sub (SF.args (.ref x) (.str name tk) v) ?_))
 obtain⟨attr,ha,hr⟩:=av.mp ht
 have hm:A0a (model pw w) s.heap (mroOf (.ref C)) cd.mro:=(looks_clsIn X hc).andThen .now
 have L3:A0a (model pw w) s.heap (storeTaker? attr) none:=by
  cases attr with
  |none=>exact .now
  |some a=>
   refine aj fun hn=> ?_
   obtain⟨b,hb,hb2⟩:=bk.mp hr
   refine hn ((looks_takesIn X hb).andThen ?_)
   cases b
   ·exact .now
   ·cases hb2
 rw[osa_eq,refuse_eq]
 refine ak (ak (I.type.here (ak (hm.here ?_))))
 rw[HK _ ho]
 exact bg (ak (I.type.here (ak ((uf X ha).here (ak (L3.here (h _)))))))
theorem bC{x C Da:Addr}{vs:Array aa}{es:List dw}{n:Nat}{name:Str}{v:aa}{Q:Unit→ai→Prop}{ns:List Str}{us:List aa}(X:K.In s.heap)(h1:s.heap.get? x=some (PX C (some Da) vs))(h2:s.heap.get? Da=some (ZA es n))(hs:YG K C name=true)
  (he:ZT w ns us es) (hz:(putL name (af w.params name) (.str name (s.toks+1)) v es).length≤1000)
  (h:∀h',gu Da s.heap h'→h'.get? Da=some (ZA (putL name (af w.params name) (.str name (s.toks+1)) v es) (putN name es n))→Q () {s with heap:=h',toks:=s.toks+2}):
  wpAny (model pw w) A (setAttr (.ref x) name v) Q E s:=by
 cases vZ hs with|mk cd k1 hc ho hd ht=>
 have I:InstAt s.heap x (PX C (some Da) vs) C (some (ZA es n)):=⟨h1,rfl,rfl,h2⟩
 exact set_plain X I k1 (F1 (s:={s with toks:=s.toks+1}) X I hs fun b=>N4 (s:={s with toks:=s.toks+1}) X hc hd h1 h2 he hz h)
inductive Ae8(w:b3)(C:Addr)(vs:Array aa)(name:Str)(v:aa)(x:Addr)(s s':ai):Prop
 |mk (Da:Addr) (es:List dw) (n:Nat) (h':Heap) (e:s'={s with heap:=h',toks:=s.toks+2}) (f:s.heap.get? Da=none) (k:∀b o,b≠x→s.heap.get? b=some o→h'.get? b=some o) (g1:h'.get? x=some (PX C (some Da) vs)) (g2:h'.get? Da=some (ZA es n)) (r:ZT w [name] [v] es)
theorem bE{x C:Addr}{vs:Array aa}{name:Str}{v:aa}{Q:Unit→ai→Prop}(X:K.In s.heap)(h1:s.heap.get? x=some (PX C none vs))(hs:YG K C name=true)(h:∀s',Ae8 w C vs name v x s s'→Q () s'):wpAny (model pw w) A (setAttr (.ref x) name v) Q E s:=by
 refine aj fun hn=> ?_
 cases vZ hs with|mk cd k1 hc ho hd ht=>
 have I:InstAt s.heap x (PX C none vs) C none:=⟨h1,rfl,rfl,trivial⟩
 refine hn (set_plain X I k1 (F1 (s:={s with toks:=s.toks+1}) X I hs fun b=> ?_))
 unfold storeInOwnDict
 refine ak (bg (ak (ak (A07 (s:={s with toks:=s.toks+1}) h1 (ak (Looks.here (s:={s with toks:=s.toks+1}) (looks_clsIn X hc) ?_))))))
 rw[hd]
 have hn:=Zs s.heap
 have hxs:s.heap.objs.size≠x:=Zj hn h1
 have hx₁:(s.heap.push {cls:= .type "dict",data:= .dict #[]}).get? x=some (PX C none vs):=au _ h1
 have eD:((s.heap.push {cls:= .type "dict",data:= .dict #[]}).update x fun o=>{o with dict:=some s.heap.objs.size}).get? s.heap.objs.size=some (ZA [] 0):=(dm _ _ hxs.symm).trans (b9 _ rfl)
 have eX:((s.heap.push {cls:= .type "dict",data:= .dict #[]}).update x fun o=>{o with dict:=some s.heap.objs.size}).get? x=some (PX C (some s.heap.objs.size) vs):=jg _ hx₁ rfl
 have kk:∀b o,b≠x→s.heap.get? b=some o→((s.heap.push {cls:= .type "dict",data:= .dict #[]}).update x fun o=>{o with dict:=some s.heap.objs.size}).get? b=some o:=fun b o hb e=>(dm _ _ hb.symm).trans (au _ e)
 refine ak (m:=alloc {cls:= .type "dict",data:= .dict #[]}) (wpAny_alloc ?_)
 refine ak (m:=update x fun o=>{o with dict:=some s.heap.objs.size}) (wpAny_update (s:={s with heap:=s.heap.push {cls:= .type "dict",data:= .dict #[]},toks:=s.toks+1}) hx₁ ?_)
 generalize ((s.heap.push {cls:= .type "dict",data:= .dict #[]}).update x fun o=>{o with dict:=some s.heap.objs.size})=H at eD eX kk ⊢
 have q:=(ZT.nil (w:=w)).push (name:=name) (v:=v) (t0:=s.toks+1) fun _ h=>nomatch h
 exact bg (a:=some s.heap.objs.size) (in_dict (s:={s with heap:=H,toks:=s.toks+1}) eD .nil (by
  rw[q.r.len]
  exact(by decide:1≤1000)) fun h' hs' e1=>h _ ⟨_,_,_,h',rfl,hn,fun b o hb e=>hs'.extBut b o (fun q=>Zj hn e q.symm) (kk b o hb e),hs'.extBut _ _ hxs.symm eX,e1,q.r⟩)
end
end
section
open PySem PySem.W
set_option backward.match.sparseCases true
section
variable{prog:k9}{w:b3}{A:bz}{E:aa→ai→Prop}{h:Heap}{g:Array yp}{d:Drawn}{t:Nat}{os:b5}
variable{nm q:Str}{C N:Addr}{bs bm:List aa}{hdct:Bool}{sn:List Str}{sub:List aa}{ab:Bool}{col:Option Bool}{dd:Option Addr}{k0 k1 k2 k3 k5:Option aa}{B newId initId:String}
theorem PY(F:RM B newId initId bm){M:o8}{e:Addr}{oe:Obj}{rest:List aa}{Q:Unit→ai→Prop}
  (hC:h.get? C=some (tn nm q C N bs bm hdct sn sub ab col dd k0 k1 k2 k3 k5 newId)) (he:h.get? e=some oe) (hcls:oe.cls= .ref C) (hq:Q () ⟨h,g,d,t,os⟩):
  wpAny M A (jb initId ⟨.ref e::rest,[]⟩) Q E ⟨h,g,d,t,os⟩:=by
 have hcB:(gw C::bm).contains (.type B)=true:=by rw[jz,F.hasB,u9]
 have hshort:=F.noStar
 simp only[jb,F.initKind,F.initSplit,F.initRow]
 repeat (first|(with_reducible refine jf he ?_;rw[hcls])|with_reducible refine jf hC ?_|(with_reducible refine o9 hC ?_;rw[hcB])|wp_step)
 refine wpAny_onRaise ?_
 rw[show ∀(a b:String) (n:Nat),Bind.check ⟨.positional,"*",B,.self,[⟨"args",.varPos,false⟩]⟩ a b n (List.map (fun x=>x.fst) ({pos:=gw e::rest}:Args).kw)=pure () from
  fun a b n=>check_star_args _ _ _ _ _ _]
 exact bg hq
theorem bF(F:RM B newId initId bm){e:Addr}{ob:Obj}{vs:Array aa}{t0:Addr}{rest:List aa}{Q:aa→ai→Prop}
  (hC:h.get? C=some (tn nm q C N bs bm hdct sn sub ab col dd k0 k1 k2 k3 k5 newId)) (he:h.get? e=some ob) (hcls:ob.cls= .ref C) (hd:ob.data= .fields vs) (h0:vs[0]?=some (.ref t0))
  (hq:Q .none ⟨(h.push {cls:= .type "tuple",data:= .seq rest.toArray}).update e (qj (·.setIfInBounds 0 (.ref h.objs.size))),g,d,t,os⟩) (hrest:rest.length≤sizeLine):
  wpAny (model prog w) A (call (.builtin initId) (.ref e::rest)) Q E ⟨h,g,d,t,os⟩:=by
 refine uu (v9 F.init.plain F.initEntry (PY F hC he hcls ?_))
 unfold jt.«BaseException.__init__»
 dsimp only
 rw[if_neg (by simp)]
 unfold newTuple A1z
 have hsz:0<vs.size:=(qz.mp h0).1
 have he₁:=au (h:=h) {cls:= .type "tuple",data:= .seq rest.toArray} he
 refine ak (qo (ak (ak (pn he₁ hd h0 (ak (wz he₁ hd hsz ?_))))) (by show rest.toArray.size≤sizeLine;rw[je];exact hrest))
 exact wpAny_letGo (bg hq)
end
end
section
open PyProof.Rows PySem PySem.Calls PySem.SeqAt PySem.W
noncomputable def nN:Stmt→Option Expr
 | .Expr e _=>some e
 |_=>none
theorem bG{s:Stmt}{e:Expr}(h:nN s=some e):∃p,s= .Expr e p:=by
 cases s with
 |Expr e p=>cases h;exact⟨p,rfl⟩
 |_=>exact no h
noncomputable def JI(base:Str)(s:Stmt):Bool:=((nN s).bind Wz).any fun q=>(Sq q.f).any (fun a=>isName base a.v&&(a.m==("__init__":Str)&&a.p.endLine==q.p.line))&&(q.UA.isEmpty&&q.es.map nameOf==[some ("self":Str),some "why"])
inductive nO(base:Str)(s:Stmt):Prop
 |mk (bp ap p1 p2 cp pos:Pos) (e:s= .Expr (.Call (.Attribute (.Name base bp) "__init__" ap) [.Name "self" p1,.Name "why" p2] [] cp) pos) (l:ap.endLine=cp.line)
theorem Ae9{α β:Type}{f:α→β}{l:List α}{a b:β}(h:l.map f=[a,b]):∃x y,l=[x,y]∧f x=a∧f y=b:=by
 cases l with
 |nil=>exact nomatch h
 |cons x l=>cases l with
  |nil=>exact nomatch (ic h).2
  |cons y l=>
   have q:=ic (ic h).2
   cases A0n.mp q.2
   exact⟨x,y,rfl,(ic h).1,q.1⟩
theorem JJ{base:Str}{s:Stmt}(h:JI base s=true):nO base s:=by
 refine aj fun hn=> ?_
 obtain⟨q,h1,h2⟩:=Zg h
 obtain⟨e,h3,h4⟩:=av.mp h1
 obtain⟨a,h5,h6⟩:=Zg (both h2).1
 obtain⟨x,y,h7,h8,h9⟩:=Ae9 (beq_iff_eq.mp (both (both h2).2).2)
 obtain⟨pos,h3⟩:=bG h3
 obtain⟨bp,L9⟩:=Zt (both h6).1
 obtain⟨p1,h8⟩:=ZC h8
 obtain⟨p2,h9⟩:=ZC h9
 have h5:=Wy h5
 rw[L9,(beq_iff_eq.mp (both (both h6).2).1:a.m="__init__")] at h5
 have h4:=Y0 h4
 rw[h5,h7,h8,h9,b6.mp (both (both h2).2).1] at h4
 exact hn (⟨bp,_,p1,p2,_,pos,h4▸h3,beq_iff_eq.mp (both (both h6).2).2⟩)
noncomputable def Ln(base n:Str)(b:List Stmt):Bool:=match b with
 |[]=>false
 |s::r=>JI base s&&Rc isName r [n]
end
section
open PyProof.Rows PySem PySem.Builtin PySem.Builtin.ObjectAttr PySem.Calls PySem.SeqAt PySem.W
section
variable{w:b3}{A:bz}{E:aa→ai→Prop}{s:ai}{K:Frag}
theorem Tc{M:o8}{env:Env}{o:Expr}{name:Str}{apos pos:Pos}{es:List Expr}{Q:aa→ai→Prop}(hn:noStar es=true)(hl:es.length<30)(hb:uz o name env (eval o env)=eval o env)(hp:apos.endLine=pos.line)
  (h:wpAny M A (eval o env) (fun ov s₁=>∀pl,wpAny M A (wk ov name pl) (fun fx s₂=>wpAny M A (callWith pos fx.1 fx.2 (backTo pos (starEach es env)) []) Q E s₂) E s₁) E s):wpAny M A (eval (.Call (.Attribute o name apos) es [] pos) env) Q E s:=by
 have few:methodCallForm (es.length+([]:List A0L).length) (backTo pos (starEach es env)) (backToKw pos (keywordEach [] env))=true:=by
  show methodCallForm (es.length+0) _ []=true;unfold methodCallForm;rw[ZH hn];simp [hl]
 rw[arm_eval_Call,hb]
 refine ak (o4 h (fun ov s₁ h₁=>ak (qi ?_)) fun _ _ x=>x)
 unfold methodCall
 refine ak (o5 ?_)
 unfold calleeOf
 rw[few]
 refine o4 (h₁ _) (fun fx s₂ h₂=> ?_) fun _ _ x=>x
 unfold methodCallPos
 rw[show(!true||apos.endLine==pos.line)=true by simp [hp]]
 exact ak (bg h₂)
theorem Lo{T:String}{name:Str}{v:aa}{pl:Sem Bool}{Q:aa × List aa→ai→Prop}(X:K.In s.heap)(ht:typeOf (.type T)=pure (.type "type"))(hs:Manifest.isStub T=false)
  (e:findCls K (.type T) (.type "type") name=some (.val v)) (hh:A04 v=true) (h:Q (v,[]) {s with toks:=s.toks+1}):wpAny (model pw w) A (wk (.type T) name pl) Q E s:=by
 have hstub:opaqueClassAbove (.type T)=pure none:=by unfold opaqueClassAbove;dsimp only;rw[hs];rfl
 have L0:A0a (model pw w) s.heap (typeOf (.type T)) (.type "type"):=A0s ht
 have hg:findIn K (.type "type") "__getattribute__"=some (some (.builtin "type.__getattribute__")):=type_tga
 unfold wk specialOf
 refine ak (ak (L0.here ((uf X hg).here ?_)))
 dsimp only
 rw[if_pos canon_tga]
 refine ak (o4 (Q:=fun v=>Q (v,[])) (E:=E) ?_ (fun _ _ z=>bg z) fun _ _ z=>z)
 have LO:A0a (model pw w) s.heap (opaqueClassAbove (.type T)) none:=A0s hstub
 refine cls_open X LO L0 hg (looks_hook X (r:=none) (by rfl)) (by show subIn K _ _=_;rfl) e
  (bg (by show wpAny _ _ (handedOut v) _ _ _;rw[handedOut_of hh];exact bg h))
theorem PZ{e:Expr}{pos:Pos}{env:Env}{Q:Flow→ai→Prop}(hi:interactive env=false)(hs:YR e=false)(h:wpAny (model pw w) A (eval e env) (fun v s'=>v= .none∧Q .next s') E s):wpAny (model pw w) A (exec (.Expr e pos) env) Q E s:=by
 rw[exec_Expr env e pos hi (ZB hs)]
 refine ak (qi (ak (o4 h (fun v s' h'=> ?_) fun _ _ x=>x)))
 obtain⟨e,hq⟩:=h'
 subst e
 rw[dropValue_plain (fun a q=>by cases q)]
 exact bg hq
end
noncomputable def Ob(K:Frag)(f:Addr)(names:List Str)(base n:Str):Bool:=V5 K f&&((fdOf K f).scope.names.all (fun x=> !vW x.2)&&(names.all (fun x=>(fdOf K f).scope.names.lookup x==some .local)&&((fdOf K f).scope.names.lookup base==some .globalImplicit&&Ln base n (bodyOf (fdOf K f)))))
structure bH(K:Frag)(f:Addr)(names:List Str)(base n:Str):Prop where
 fn:V5 K f=true
 nc:∀x∈(fdOf K f).scope.names,x.2≠.cell
 loc:∀x∈names,(fdOf K f).scope.names.lookup x=some .local
 gl:(fdOf K f).scope.names.lookup base=some .globalImplicit
 b:Ln base n (bodyOf (fdOf K f))=true
theorem Oa{K:Frag}{f:Addr}{names:List Str}{base n:Str}(h:Ob K f names base n=true):bH K f names base n:=
 have h1:=both h
 have h2:=both h1.2
 have h3:=both h2.2
 have h4:=both h3.2
 ⟨h1.1,fun x hx q=>(nomatch (nf (az.mp h2.1 x hx)).symm.trans (beq_iff_eq.mpr q)),fun x hx=>beq_iff_eq.mp (az.mp h3.1 x hx),beq_iff_eq.mp h4.1,h4.2⟩
theorem bI(P:b7):Ob (KF P) 131 ["self","why"] "Exception" "why"=true:=by kernel_rfl
theorem wA(P:b7):[151,170].all (fun f=>Ob (KF P) f ["self","why","at"] "WasmFault" "at")=true:=by kernel_rfl
theorem wB:typeOf (.type "Exception")=pure (.type "type"):=by kernel_rfl
structure wF(base:Str)(names:List Str)(vals:List aa)(ce:Env)(L:Addr)(h:Heap):Prop where
 kind:ce.scope.kind= .function
 gl:ce.globals=mainGlobals
 bl:ce.builtins=builtinsNs
 l:ce.locals=L
 ns:h.Ns ce.locals fun x=>(names.zip vals).reverse.lookup x
 loc:∀x∈names,ce.kindOf x=some .local
 b:ce.kindOf base=some .globalImplicit
inductive wC(w:b3)(C e:Addr)(vs:Array aa)(names:List Str)(vals:List aa)(s s':ai):Prop
 |mk (h':Heap) (tk:Nat) (Da t1:Addr) (es:List dw) (n:Nat) (eq:s'={s with heap:=h',toks:=tk}) (k:∀b o,b≠e→s.heap.get? b=some o→h'.get? b=some o) (f:s.heap.get? Da=none)
  (g1:h'.get? e=some (PX C (some Da) (vs.setIfInBounds 0 (.ref t1)))) (g2:h'.get? Da=some (ZA es n)) (r:ZT w names vals es)
section
variable{w:b3}{A:bz}{s:ai}{R:ly→ai→Prop}
theorem JK{P:b7}{f:Addr}{o:Obj}{names:List Str}{base n:Str}{vals:List aa}(I:bH (KF P) f names base n)(F:Yt P f (fdOf (KF P) f) o (bodyOf (fdOf (KF P) f)) names)(hroom:A.depth<1000)(X:(KF P).In s.heap)(hlim:s.heap.NoLimit)(hl:vals.length=names.length)
  (h:∀ce h₀ tk,wF base names vals ce s.heap.objs.size h₀→(∀b o,s.heap.get? b=some o→h₀.get? b=some o)→wpAny (model pw w) (A.deeper ce) (execs (bodyOf (fdOf (KF P) f)) ce) (fun fl s'=>fl= .next∧R (.ok (.ret .none)) s') (fun _ _=>False) {s with heap:=h₀,toks:=tk}):
  codeAny (model pw w) A (.call (.ref f) ⟨vals,[]⟩) R s:=by
 refine codeAny_call_def (binds:=names.zip vals) hroom (X _ _ F.look) F.data hlim (A0D X F.code) F.body (kp_binds X fun S=>F.binds S _ hl) I.nc (fun y hy=>I.loc y.1 (WW hl▸ku.mpr ⟨y,hy,rfl⟩)) (fun h₀ hns hk0=> ?_) F.co F.gen F.kind
 refine o4 (h (callEnv (fdOf (KF P) f) s.heap.objs.size f) h₀ _ ⟨F.kind,F.gl,F.bl,rfl,hns,I.loc,I.gl⟩ hk0) (fun fl s' q=> ?_) fun _ _ q=>q.elim
 cases q.1
 exact q.2
end
inductive Td(C:Addr)(bm:List aa)(o:Obj):Prop
 |mk (nm q:Str) (N:Addr) (bs:List aa) (hdct:Bool) (sn:List Str) (sub:List aa) (ab:Bool) (col:Option Bool) (dd:Option Addr) (k0 k1 k2 k3 k5:Option aa) (e:o=tn nm q C N bs bm hdct sn sub ab col dd k0 k1 k2 k3 k5 "Exception.__new__")
theorem F5(P:b7):Yt P 131 (fdOf (KF P) 131) (objOf (KF P) 131) (bodyOf (fdOf (KF P) 131)) ["self","why"]:=YX (Oa (bI P)).fn fun S vals hl=>by
 obtain⟨a,r,e1,h⟩:=Yo hl
 obtain⟨b,r2,e2,h⟩:=Yo h
 cases RL h
 subst e1 e2
 kernel_rfl
theorem NJ(P:b7):(HF P).nsMap mainGlobals "Exception"=none∧(HF P).nsMap builtinsNs "Exception"=some (.type "Exception")∧(HF P).nsMap mainGlobals "WasmFault"=some (.ref 134):=⟨by kernel_rfl,by kernel_rfl,by kernel_rfl⟩
theorem F6(P:b7):findCls (KF P) (.type "Exception") (.type "type") "__init__"=some (.val (.builtin "Exception.__init__"))∧findCls (KF P) (.ref 134) (.type "type") "__init__"=some (.val (.ref 131))∧readsIn (KF P) 134 (.type "type")=true∧
  specialIn (KF P) (.ref 134) "__getattribute__"=some (some (.builtin "type.__getattribute__")):=⟨by kernel_rfl,by kernel_rfl,by kernel_rfl,by kernel_rfl⟩
section
variable{c:Cf}{ν:List Addr}{env:Ev}{st:St}{s0 s:ai}{A:bz}{R:ly→ai→Prop}{E:aa→ai→Prop}{Q:aa→ai→Prop}
theorem wF.name{base x:Str}{names:List Str}{vals:List aa}{ce:Env}{L:Addr}{h:Heap}{v:aa}{p:Pos}(f:wF base names vals ce L h)(hn:s.heap.Ns ce.locals fun x=>(names.zip vals).reverse.lookup x)(hx:x∈names)(hv:(names.zip vals).reverse.lookup x=some v)(hd:(x==("__debug__":Str))=false)(hq:Q v s):wpAny c.M A (eval (.Name x p) ce) Q E s:=
 uv (j7 f.kind (f.loc x hx) hn hv hq) hd
end
inductive AeA(base n:Str)(b:List Stmt):Prop
 |mk (s1 s2:Stmt) (e:b=[s1,s2]) (c:nO base s1) (i:nK isName s2 n)
theorem Od{base n:Str}{b:List Stmt}(h:Ln base n b=true):AeA base n b:=by
 cases b with
 |nil=>exact ff h
 |cons s1 r=>cases r with
  |nil=>exact ff (both h).2
  |cons s2 r=>
   have q:(aT isName s2 n&&Rc isName r [])=true:=(both h).2
   cases r with
   |nil=>exact⟨s1,s2,rfl,JJ (both h).1,JH (both q).1⟩
   |cons _ _=>exact ff (both q).2
section
variable{c:Cf}{ν:List Addr}{env:Ev}{st:St}{s0 s:ai}{A:bz}{R:ly→ai→Prop}
theorem kE{C e t0:Addr}{oc:Obj}{vs:Array aa}{YY:Str}{t:Tok}{bm:List aa}(i:c.I ν env st s0)(kk:∀b o,s0.heap.get? b=some o→s.heap.get? b=some o)(hroom:A.depth+2<1000)(F:RM "Exception" "Exception.__new__" "Exception.__init__" bm)
  (hC:s0.heap.get? C=some oc) (hcl:Td C bm oc) (he0:s0.heap.get? e=none) (he:s.heap.get? e=some (PX C none vs)) (h0:vs[0]?=some (.ref t0)) (hst:YG (KF c.w.params) C "why"=true)
  (hR:∀s',wC c.w C e vs ["why"] [.str YY t] s s'→R (.ok (.ret .none)) s'):codeAny c.M A (.call (.ref 131) ⟨[.ref e,.str YY t],[]⟩) R s:=by
 have I:=Oa (bI c.w.params)
 have X:(KF c.w.params).In s.heap:=fun a o h=>kk _ _ (i.K a o h)
 refine JK I (F5 c.w.params) (bq (br _ _) hroom) X ((i.lim.keeps i.stays).keeps kk) rfl fun ce h₀ tk f hk0=> ?_
 cases Od I.b with|mk s1 s2 eb cs is=>
 rw[eb]
 refine aj fun hn=> ?_
 cases cs with|mk bp ap p1 p2 cp pos e1 hp=>
 cases is with|mk sp ap2 pos2 e2x e2 hp2 _=>
 obtain⟨p,ee⟩:=Zt hp2
 subst ee
 subst e1 e2
 have k1:∀b o,s0.heap.get? b=some o→h₀.get? b=some o:=fun b o q=>hk0 _ _ (kk _ _ q)
 have m1:((["self","why"]:List Str).zip [gw e,.str YY t]).reverse.lookup ("self":Str)=some (.ref e):=by kernel_rfl
 have m2:((["self","why"]:List Str).zip [gw e,.str YY t]).reverse.lookup ("why":Str)=some (.str YY t):=by kernel_rfl
 have eL:e≠ce.locals:=fun q=>kj _ (f.l▸q▸gq he)
 have n:=NJ c.w.params
 have gb:=(F6 c.w.params).1
 refine hn (oz (PZ (by unfold interactive;rw[f.kind];rfl) rfl (Tc rfl (by decide:2<30) rfl hp ?_)))
 refine j8 f.kind f.b (xh (f.gl▸(Vr i).keeps k1) n.1 (f.bl▸(IY i).keeps k1) n.2.1 fun pl=> ?_) (by decide)
 refine Lo (K:=KF c.w.params) (fun a o q=>hk0 _ _ (X a o q)) wB (by decide+kernel) gb rfl ?_
 refine callWith_builtin rfl (evalArgs_plain (PySem.Calls.spliced_cons (f.name f.ns (.head _) m1 (by decide) (PySem.Calls.spliced_cons (f.name f.ns (.tail _ (.head _)) m2 (by decide) (PySem.Calls.spliced_nil ?_))))))
 refine aj fun hn=> ?_
 cases hcl with|mk nm q N bs hdct sn sub ab col dd k0 k1' k2 k3 k5 ec=>
 subst ec
 refine hn (bF F (k1 _ _ hC) (hk0 _ _ he) rfl rfl h0 ⟨rfl,?_⟩ (show 1≤sizeLine by decide+kernel))
 have eP:=au (h:=h₀) {cls:= .type "tuple",data:= .seq [gw e,.str YY t].tail.toArray} (hk0 _ _ he)
 have kP:∀b o,b≠e→h₀.get? b=some o→((h₀.push {cls:= .type "tuple",data:= .seq [gw e,.str YY t].tail.toArray}).update e (qj (·.setIfInBounds 0 (.ref h₀.objs.size)))).get? b=some o:=fun b o hb q=>(dm _ _ hb.symm).trans (au _ q)
 have eE:((h₀.push {cls:= .type "tuple",data:= .seq [gw e,.str YY t].tail.toArray}).update e (qj (·.setIfInBounds 0 (.ref h₀.objs.size)))).get? e=some (PX C none (vs.setIfInBounds 0 (.ref h₀.objs.size))):=jg _ eP rfl
 show wpAny _ _ _ _ _ {s with heap:=(h₀.push {cls:= .type "tuple",data:= .seq [gw e,.str YY t].tail.toArray}).update e (qj (·.setIfInBounds 0 (.ref h₀.objs.size))),toks:=_}
 generalize (h₀.push {cls:= .type "tuple",data:= .seq [gw e,.str YY t].tail.toArray}).update e (qj (·.setIfInBounds 0 (.ref h₀.objs.size)))=H at kP eE ⊢
 have hns':H.Ns ce.locals fun x=>((["self","why"]:List Str).zip [gw e,.str YY t]).reverse.lookup x:=f.ns.elim fun o w=>w.elim fun es w=>w.elim fun ep w=>⟨o,es,ep,kP _ _ eL.symm w.1,w.2⟩
 refine oz (ug (f.name hns' (.tail _ (.head _)) m2 (by decide) (f.name hns' (.head _) m1 (by decide) ?_)) rfl)
 refine bE (K:=KF c.w.params) (fun a o q=>kP _ _ (fun z=>Zj he0 (i.K a o q) z.symm) (hk0 _ _ (X a o q))) eE hst fun s' y=>zh ⟨rfl,hR _ ?_⟩
 refine aj fun hn=> ?_
 cases y with|mk Da es n h' eq q1 q2 q3 q4 q5=>
 refine hn (⟨h',_,Da,_,es,n,eq,fun b o hb z=>q2 b o hb (kP b o hb (hk0 _ _ z)),?_,q3,q4,q5⟩)
 cases z:s.heap.get? Da with
 |none=>rfl
 |some o=>exact absurd rfl (Zj q1 (kP Da o (Zj q1 eE) (hk0 _ _ z)))
end
theorem AbK(P:b7)(S:jw)(a b c:aa):peek (KF P) S (m6 (fdOf (KF P) 151) ⟨[a,b,c],[]⟩)=some ((["self","why","at"]:List Str).zip [a,b,c]):=by kernel_rfl
theorem AbJ(P:b7)(S:jw)(a b c:aa):peek (KF P) S (m6 (fdOf (KF P) 170) ⟨[a,b,c],[]⟩)=some ((["self","why","at"]:List Str).zip [a,b,c]):=by kernel_rfl
noncomputable def JL(k:Nat):Addr:=[151,170].getD k 170
structure wG(P:b7)(f:Addr):Prop where
 i:bH (KF P) f ["self","why","at"] "WasmFault" "at"
 f:Yt P f (fdOf (KF P) f) (objOf (KF P) f) (bodyOf (fdOf (KF P) f)) ["self","why","at"]
theorem kF(P:b7){f:Addr}(hf:f=151∨f=170):wG P f:=by
 have I:=Oa (az.mp (wA P) f (hf.elim (fun e=>e▸ .head _) fun e=>e▸ .tail _ (.head _)))
 refine⟨I,YX I.fn fun S vals hl=> ?_⟩
 obtain⟨a,r,e1,h⟩:=Yo hl
 obtain⟨b,r2,e2,h⟩:=Yo h
 obtain⟨c,r3,e3,h⟩:=Yo h
 cases RL h
 subst e1 e2 e3
 exact hf.elim (fun e=>e▸AbK P S a b c) fun e=>e▸AbJ P S a b c
section
variable{c:Cf}{ν:List Addr}{env:Ev}{st:St}{s0 s:ai}{A:bz}{R:ly→ai→Prop}
theorem kG{f C e t0:Addr}{oc:Obj}{vs:Array aa}{YY:Str}{t ta:Tok}{at_:Int}{bm:List aa}(hf:f=151∨f=170)(i:c.I ν env st s0)(kk:∀b o,s0.heap.get? b=some o→s.heap.get? b=some o)(hroom:A.depth+5<1000)(F:RM "Exception" "Exception.__new__" "Exception.__init__" bm)
  (hC:s0.heap.get? C=some oc) (hcl:Td C bm oc) (he0:s0.heap.get? e=none) (he:s.heap.get? e=some (PX C none vs)) (h0:vs[0]?=some (.ref t0)) (hst:YG (KF c.w.params) C "why"=true) (hst2:YG (KF c.w.params) C "at"=true)
  (hR:∀s',wC c.w C e vs ["why","at"] [.str YY t,.int at_ ta] s s'→R (.ok (.ret .none)) s'):codeAny c.M A (.call (.ref f) ⟨[.ref e,.str YY t,.int at_ ta],[]⟩) R s:=by
 have EF:=kF c.w.params hf
 have X:(KF c.w.params).In s.heap:=fun a o h=>kk _ _ (i.K a o h)
 refine JK EF.i EF.f (bq (br _ _) hroom) X ((i.lim.keeps i.stays).keeps kk) rfl fun ce h₀ tk fr hk0=> ?_
 cases Od EF.i.b with|mk s1 s2 eb cs is=>
 rw[eb]
 cases cs with|mk bp ap p1 p2 cp pos e1 hp=>
 cases is with|mk sp ap2 pos2 e2x e2 hp2 _=>
 obtain⟨p,ee⟩:=Zt hp2
 subst ee
 subst e1 e2
 have k1:∀b o,s0.heap.get? b=some o→h₀.get? b=some o:=fun b o q=>hk0 _ _ (kk _ _ q)
 have X0:(KF c.w.params).In h₀:=fun a o q=>hk0 _ _ (X a o q)
 have m1:((["self","why","at"]:List Str).zip [gw e,.str YY t,.int at_ ta]).reverse.lookup ("self":Str)=some (.ref e):=by kernel_rfl
 have m2:((["self","why","at"]:List Str).zip [gw e,.str YY t,.int at_ ta]).reverse.lookup ("why":Str)=some (.str YY t):=by kernel_rfl
 have m3:((["self","why","at"]:List Str).zip [gw e,.str YY t,.int at_ ta]).reverse.lookup ("at":Str)=some (.int at_ ta):=by kernel_rfl
 have eL:e≠ce.locals:=fun q=>kj _ (fr.l▸q▸gq he)
 have n:=NJ c.w.params
 have gb:=(F6 c.w.params).2
 have W:=F5 c.w.params
 refine oz (PZ (by unfold interactive;rw[fr.kind];rfl) rfl (Tc rfl (by decide:2<30) rfl hp ?_))
 refine j8 fr.kind fr.b (qu (fr.gl▸(Vr i).keeps k1) n.2.2 fun pl=> ?_) (by decide)
 refine method_cls (K:=KF c.w.params) X0 gb.2.2 (cls_value X0 gb.2.1 gb.1 rfl ?_)
 refine callWith_function (evalArgs_plain (PySem.Calls.spliced_cons (fr.name fr.ns (.head _) m1 (by decide) (PySem.Calls.spliced_cons (fr.name fr.ns (.tail _ (.head _)) m2 (by decide) (PySem.Calls.spliced_nil ⟨⟨X0 _ _ W.look,W.data⟩,uu (kE (s:={s with heap:=h₀,toks:=_}) i k1 (bq (d9 (by decide) A.depth:A.depth+3≤A.depth+5) hroom) F hC hcl he0 (hk0 _ _ he) h0 hst fun s' y=>⟨rfl,?_⟩)⟩))))))
 cases y with|mk H tk2 Da t1 es n' eq q1 q2 q3 q4 q5=>
 subst eq
 have hns':H.Ns ce.locals fun x=>((["self","why","at"]:List Str).zip [gw e,.str YY t,.int at_ ta]).reverse.lookup x:=fr.ns.elim fun o w=>w.elim fun es w=>w.elim fun ep w=>⟨o,es,ep,q1 _ _ eL.symm w.1,w.2⟩
 have XH:(KF c.w.params).In H:=fun a o q=>q1 _ _ (fun z=>Zj he0 (i.K a o q) z.symm) (X0 a o q)
 refine oz (ug (fr.name hns' (.tail _ (.tail _ (.head _))) m3 (by decide) (fr.name hns' (.head _) m1 (by decide) ?_)) rfl)
 have q:=q5.push (name:="at") (v:= .int at_ ta) (t0:=tk2+1) (by decide)
 refine bC (K:=KF c.w.params) XH q3 q4 hst2 q5 (by
  rw[q.r.len]
  exact(by decide:2≤1000)) fun h' hs hD'=>zh ⟨rfl,hR _ ⟨h',_,Da,t1,_,_,rfl,fun b o hb z=>hs.extBut b o (fun w=>Zj q2 (hk0 _ _ z) w.symm) (q1 b o hb (hk0 _ _ z)),none_of hk0 q2,hs.extBut _ _ (Zj q2 (hk0 _ _ he)).symm q3,hD',q.r⟩⟩
end
noncomputable def JM:List aa:=[.ref 134,.type "Exception",.type "BaseException",.type "object"]
noncomputable def wH(o:Obj):Option ClassData:=match o.data with
 | .cls cd=>some cd
 |_=>none
theorem kJ{o:Obj}{cd:ClassData}(h:wH o=some cd):o.data= .cls cd:=by
 unfold wH at h
 cases e:o.data with
 |cls g=>rw[e] at h;cases h;rfl
 |_=>rw[e] at h;exact no h
theorem F7:RM "Exception" "Exception.__new__" "Exception.__init__" JM:=RM.of PySem.F.excBase_Exception (by decide+kernel) (by decide+kernel) (by decide+kernel) (by decide+kernel)
noncomputable def isNew(v:Option aa):Bool:=v==some (.builtin "Exception.__new__")
noncomputable def Lp(C:Addr)(o:Obj):Bool:=o.cls== .type "type"&&((wH o).any (fun cd=>cd.mro== .ref C::JM&& !cd.hasDel)&&(o.slots.toList.length==6&&isNew (o.slots.toList.getD 4 none)))
theorem HL{C:Addr}{o:Obj}(h:Lp C o=true):Td C JM o:=by
 obtain⟨cl,dd,da,⟨l⟩⟩:=o
 have h1:=both h
 have h2:=both h1.2
 have h3:=both h2.2
 obtain⟨cd,hc,hd⟩:=Zg h2.1
 have hda:da= .cls cd:=kJ hc
 clear hc
 have e1:cl= .type "type":=beq_iff_eq.mp h1.1
 obtain⟨nm,bs,mro,N,q,hdct,sn,sub,ab,col,hdel⟩:=cd
 have hm:mro= .ref C::JM:=beq_iff_eq.mp (both hd).1
 have hdl:hdel=false:=nf (both hd).2
 clear hd h2 h1 h
 obtain⟨k0,r,ea,hl⟩:=Yo (n:=5) (beq_iff_eq.mp h3.1:l.length=6)
 obtain⟨k1,r,eb,hl⟩:=Yo hl
 obtain⟨k2,r,ec,hl⟩:=Yo hl
 obtain⟨k3,r,ed,hl⟩:=Yo hl
 obtain⟨k4,r,ee,hl⟩:=Yo hl
 obtain⟨k5,r,ef,hl⟩:=Yo hl
 cases RL hl
 subst ef ee ed ec eb ea hda e1 hm hdl
 have h4:k4=some (.builtin "Exception.__new__"):=beq_iff_eq.mp h3.2
 subst h4
 exact⟨nm,q,N,bs,hdct,sn,sub,ab,col,dd,k0,k1,k2,k3,k5,rfl⟩
end
section
open PyProof.Rows PySem PySem.Calls PySem.SeqAt PySem.W
section
set_option backward.match.sparseCases true
open PySem.Builtin PySem.Builtin.ObjectAttr
section
variable{M:o8}{A:bz}{E:aa→ai→Prop}{env:Env}{s:ai}{C:Addr}{bm:List aa}
theorem OM{pos:Pos}{args:List (Bool × Sem aa)}{Q:aa→ai→Prop}(hplain:args.any (·.1)=false)
  (h:Zh M A (yr (.ref C) true args []) (fun x s₁=>(∃o,s₁.heap.get? C=some o∧Td C bm o)∧Zh M A (PySem.call (.ref C) x.pos x.kw) Q E s₁) E s):Zh M A (callWith pos (.ref C) [] args []) Q E s:=by
 unfold callWith
 refine Ze (Zd h) fun x s₁ h₁=>Zp ?_
 rw[hplain]
 refine aj fun hn=> ?_
 obtain⟨⟨o,ho,oc⟩,h₁⟩:=h₁
 cases oc with|mk nm q N bs hdct sn sub ab col dd k0 k1 k2 k3 k5 e=>
 subst e
 cases s₁
 exact hn (Zb (m:=keeperOf (.ref C)) (up (wpAny_keeperOf_exc ho (WC h₁))))
theorem HM{x:Sem aa}{Q:Flow→ai→Prop}(hbase:bm.contains (.type "BaseException")=true)(hh:A.handled=none)
  (h:Zh M A x (fun v s₁=>∃e t D o,v= .ref e∧s₁.heap.get? C=some o∧Td C bm o∧
   s₁.heap.get? e=some {cls:= .ref C,dict:=some D,data:= .fields #[.ref t,.none,.none,.none,.bool false,.none]}∧E (.ref e) s₁) E s):
  Zh M A (raiseStmt env (some x) none) Q E s:=by
 have hcB:(gw C::bm).contains (.type "BaseException")=true:=by rw[jz,hbase,u9]
 unfold raiseStmt
 refine Ze h fun v s₁ h₁=>up ?_
 obtain⟨e,t,D,o,ev,hC,oc,he,hE⟩:=h₁
 cases oc with|mk nm q N bs hdct sn sub ab col dd k0 k1 k2 k3 k5 ec=>
 subst ec ev
 obtain⟨hp,g,d,tk,os⟩:=s₁
 repeat (first|with_reducible refine jf he ?_|with_reducible refine jf hC ?_|(with_reducible refine o9 hC ?_;rw[hcB])|wp_step)
 exact wpAny_raiseNew_none hh hE
end
end
structure wI(P:b7)(x:Str)(k:Nat):Prop where
 nm:(HF P).nsMap mainGlobals x=some (.ref (YI k))
 shp:((KF P).lookup (YI k)).any (Lp (YI k))=true
 find:findIn (KF P) (.ref (YI k)) "__init__"=some (some (.ref (JL k)))
 ty:typeIn (KF P) (.ref (JL k))=some (.type "function")
 f:JL k=151∨JL k=170
 YY:YG (KF P) (YI k) "why"=true
 at_:YG (KF P) (YI k) "at"=true
noncomputable def kK(P:b7)(p:Str × Nat):Bool:=(HF P).nsMap mainGlobals p.1==some (.ref (YI p.2))&&(((KF P).lookup (YI p.2)).any (Lp (YI p.2))&&(findIn (KF P) (.ref (YI p.2)) "__init__"==some (some (.ref (JL p.2)))&&(typeIn (KF P) (.ref (JL p.2))==some (.type "function")&&
 ((JL p.2==151||JL p.2==170)&&(YG (KF P) (YI p.2) "why"&&YG (KF P) (YI p.2) "at")))))
theorem HN(P:b7):[(("Malformed":Str),0),("LeftOut",1)].all (kK P)=true:=by kernel_rfl
theorem Lq(P:b7){x:Str}{k:Nat}(h:J9 x=some k):wI P x k:=
 have h1:=both (az.mp (HN P) (x,k) (Zq h))
 have h2:=both h1.2
 have h3:=both h2.2
 have h4:=both h3.2
 have h5:=both h4.2
 ⟨beq_iff_eq.mp h1.1,h2.1,beq_iff_eq.mp h3.1,beq_iff_eq.mp h4.1,(jv.mp h5.1).imp beq_iff_eq.mp beq_iff_eq.mp,(both h5.2).1,(both h5.2).2⟩
section
variable{C:Cx}{c:Cf}{ν:List Addr}{env:Ev}{st:St}{s s':ai}{X:Xp}
theorem kL{k:Nat}{e t0:Addr}{YY:Str}{at_:Int}{t ta:Tok}{oc:Obj}{h':Heap}{bm:List aa}(i:c.I ν env st s)(x:X k YY at_ st)(hC:s.heap.get? (YI k)=some oc)(hcl:Td (YI k) bm oc)(n:s.heap.get? e=none)(kk:∀b o,s.heap.get? b=some o→h'.get? b=some o)
  (z:wC c.w (YI k) e #[.ref t0,.none,.none,.none,.bool false,.none] ["why","at"] [.str YY t,.int at_ ta] {s with heap:=h'} s'):
  ∃e' t1 D o,gw e= .ref e'∧s'.heap.get? (YI k)=some o∧Td (YI k) bm o∧s'.heap.get? e'=some {cls:= .ref (YI k),dict:=some D,data:= .fields #[.ref t1,.none,.none,.none,.bool false,.none]}∧c.RX X (.ref e') s':=by
 cases z with|mk h2 tk Da t1 es m eq q1 q2 g1 g2 r=>
 subst eq
 have kH:∀b o,s.heap.get? b=some o→h2.get? b=some o:=fun b o w=>q1 b o (Zj n w).symm (kk b o w)
 have i5:c.I ν env st {s with heap:=h2,toks:=tk}:=i.SO kH
 exact⟨e,t1,Da,oc,rfl,kH _ _ hC,hcl,g1,e,k,YY,at_,st,_,Da,none,rfl,x,⟨_,_,g1,rfl,rfl,rfl,rfl,g2,Vp,none_of i.stays n,fun q=>i.ZE (none_of kk q2) (i.frν _ q) rfl⟩,.inl rfl,⟨es,m,t,ta,rfl,r⟩,i5.str.YC fun b o eb hb hb'=>hb (i5.fν b hb'),i5.stays,i5.frames,i5.sin,i5.os,i5.gens,match i5.VE with|⟨lm,cm,f⟩=>⟨lm,f.ns⟩⟩
theorem Te{x:Str}{p pos cp:Pos}{es:List Expr}{k:Nat}{a:PE}(ok:c.Ok)(hg:Xl c.ce.scope c.nm x=true)(hx:J9 x=some k)(hn:noStar es=true)(h1:∀ν,YD C c ν es a):ZJ C c (.Raise (some (.Call (.Name x p) es [] cp)) none pos) (.raise k a):=fun ν env st N R X s i hq=>by
 have EA:=Lq c.w.params hx
 obtain⟨oc,hlk,hsh⟩:=Zg EA.shp
 have hcl:=HL hsh
 obtain⟨oI,hoI,hcI⟩:=bk.mp EA.ty
 show Zh _ _ (exec _ _) _ _ _
 rw[arm_exec_Raise]
 refine Zp ?_
 show Zh _ _ (raiseStmt c.ce (some (do let v ← eval (.Call (.Name x p) es [] cp) c.ce;standAt pos;pure v)) none) _ _ s
 refine HM (C:=YI k) (bm:=JM) (by decide+kernel) ok.handled ?_
 refine Ze ?_ fun v s' h=>Zp (Zc h)
 refine Z8 (up (Vx ok i hg EA.nm (OM (plain_any hn) (Yu (plain_any hn) ((h1 ν _ _ _ _ _ _ i hq).then fun svs cvs st1 s1 q1 r1 i1 g1=>⟨⟨oc,i1.K _ _ hlk,hcl⟩,BX q1 fun a b e q=> ?_⟩)))))
 subst e
 refine Abg (P:=fun cvs=>Zh c.M c.A (PySem.call (.ref (YI k)) cvs) _ _ s1) r1 fun va vb ra rb=> ?_
 refine Se (P:=fun va=>Zh c.M c.A (PySem.call (.ref (YI k)) [va,vb]) _ _ s1) q ra fun YY t q=>Z7 (P:=fun vb=>Zh c.M c.A (PySem.call (.ref (YI k)) [.str YY t,vb]) _ _ s1) q rb fun at_ ta _ q=> ?_
 have hX:=(Uy q).2
 have hC:=i1.K _ _ hlk
 refine aj fun hn=> ?_
 cases s1 with|mk hh gs dr tk os=>
 have hcl':=hcl
 cases hcl' with|mk nm q' N bs hdct sn sub ab col dd k0 k1 k2 k3 k5 ec=>
 refine hn (up (bA (prog:=pw) F7 (ec▸hC) (uf i1.K EA.find) (i1.K _ _ hoI) hcI (fun h' e hm=> ?_) (show 2≤sizeLine by decide+kernel)))
 refine aj fun hn=> ?_
 obtain⟨t0,ht,_,_⟩:=hm.there
 have r:c.A.depth+3+5<1000:=bq (l8 (br (c.A.depth+3) (6*c.r)) (by decide:5≤97)) (by have:=ok.depth;omega)
 exact hn (uu (kG (s:=⟨h',gs,dr,tk,os⟩) EA.f i1 hm.keeps (bq (jm (d9 (cw (V6 _ _)) c.A.depth) 5) r) F7 hC hcl hm.new ht rfl EA.YY EA.at_ fun s' y=>⟨rfl,kL i1 hX hC hcl hm.new hm.keeps y⟩))
end
theorem calls(r:Nat):XA (Cp QD r) r:=aZ (fun r c ok _ x p pos cp es k a h1 h2 h3 h4=>Te ok h1 h2 h3 h4) r
end
section
open PyProof.Rows PySem PySem.Builtin PySem.Builtin.ObjectAttr PySem.Calls PySem.SeqAt PySem.W
structure IfV where
 t:Expr
 o:Expr
noncomputable def ifV:Expr→Option IfV
 | .IfExp t _ o _=>some ⟨t,o⟩
 |_=>none
structure AbL where
 l:Expr
 ops:List qw
 rs:List Expr
noncomputable def kO:Expr→Option AbL
 | .Compare l ops rs _=>some ⟨l,ops,rs⟩
 |_=>none
noncomputable def AeD:qw→Bool
 | .Is=>true
 |_=>false
noncomputable def kM:zo→Bool
 | .none=>true
 |_=>false
theorem wK{e:Expr}{q:IfV}(h:ifV e=some q):∃x p,e= .IfExp q.t x q.o p:=by cases e<;>first|exact no h|(cases h;exact⟨_,_,rfl⟩)
theorem Lv{e:Expr}{q:AbL}(h:kO e=some q):∃p,e= .Compare q.l q.ops q.rs p:=by cases e<;>first|exact no h|(cases h;exact⟨_,rfl⟩)
noncomputable def nP(n:Str)(e:Expr):Bool:=(ifV e).any fun q=>isName n q.o&&(kO q.t).any fun c=>isName n c.l&&((c.ops.length==1&&c.ops.all AeD)&&(c.rs.length==1&&c.rs.all fun r=>(XR r).any kM))
noncomputable def AeE(n:Str)(e:Expr):Bool:=isName n e||nP n e
noncomputable def AeC(_:Str)(e:Expr):Bool:=(Wz e).any fun q=>isName "bytearray" q.f&&(q.es.isEmpty&&q.UA.isEmpty)
inductive AeB(n:Str)(e:Expr):Prop
 |mk (p1 p2 p3 p4 p5:Pos) (k:Nat) (x:Expr) (q:e= .IfExp (.Compare (.Name n p1) [.Is] [.Constant .none k p2] p3) x (.Name n p4) p5)
theorem bJ{n:Str}{e:Expr}(h:nP n e=true):AeB n e:=by
 refine aj fun hn=> ?_
 obtain⟨q,h1,h⟩:=Zg h
 obtain⟨c,h2,h3⟩:=Zg (both h).2
 obtain⟨x,p5,h1⟩:=wK h1
 obtain⟨p3,h2⟩:=Lv h2
 obtain⟨p4,h4⟩:=Zt (both h).1
 obtain⟨p1,h5⟩:=Zt (both h3).1
 have h6:=both (both h3).2
 obtain⟨o,h7⟩:=m8.mp (beq_iff_eq.mp (both h6.1).1)
 obtain⟨r,h8⟩:=m8.mp (beq_iff_eq.mp (both h6.2).1)
 have ho:=az.mp (both h6.1).2 o (h7▸ .head _)
 have hr:=az.mp (both h6.2).2 r (h8▸ .head _)
 obtain⟨k,h9,L9⟩:=Zg hr
 obtain⟨kk,p2,h9⟩:=X9 h9
 have eo:o= .Is:=by cases o<;>first|rfl|exact ff ho
 have ek:k= .none:=by cases k<;>first|rfl|exact ff L9
 rw[h5,h7,h8,h9,eo,ek] at h2
 rw[h2,h4] at h1
 exact hn (⟨p1,p2,p3,p4,p5,kk,x,h1⟩)
noncomputable abbrev Lr:List Str:=["octets","at","end"]
theorem Ls(P:b7):Sv AeE (KF P) ((HF P).nsMap mainGlobals "Cursor") (fdOf (KF P) 585) 585 MA Lr Lr=true:=by kernel_rfl
theorem Lu(P:b7):Sv AeC (KF P) ((HF P).nsMap mainGlobals "Sink") (fdOf (KF P) 704) 704 TY [] ["octets"]=true:=by kernel_rfl
theorem wJ(P:b7):((fdOf (KF P) 704).scope.names.lookup ("bytearray":Str)==some .globalImplicit)=true:=by kernel_rfl
theorem bL(P:b7)(S:jw)(a b c d:aa):peek (KF P) S (m6 (fdOf (KF P) 585) ⟨[a,b,c,d],[]⟩)=some ((("self":Str)::Lr).zip [a,b,c,d]):=by kernel_rfl
theorem bM(P:b7)(S:jw)(a:aa):peek (KF P) S (m6 (fdOf (KF P) 704) ⟨[a],[]⟩)=some ((["self"]:List Str).zip [a]):=by kernel_rfl
theorem Dj(P:b7):Yt P 585 (fdOf (KF P) 585) (objOf (KF P) 585) (bodyOf (fdOf (KF P) 585)) ("self"::Lr):=YX (YF (Ls P)).fn fun S vals hl=>by
 obtain⟨a,r,e,h⟩:=Yo hl
 obtain⟨b,r2,e2,h⟩:=Yo h
 obtain⟨c,r3,e3,h⟩:=Yo h
 obtain⟨d,r4,e4,h⟩:=Yo h
 cases RL h
 subst e e2 e3 e4
 exact bL P S a b c d
theorem Dk(P:b7):Yt P 704 (fdOf (KF P) 704) (objOf (KF P) 704) (bodyOf (fdOf (KF P) 704)) ["self"]:=YX (YF (Lu P)).fn fun S vals hl=>by
 obtain⟨a,r,e,h⟩:=Yo hl
 cases RL h
 subst e
 exact bM P S a
section
variable{w:b3}{A:bz}{R:ly→ai→Prop}{s:ai}
theorem InF.ev{sc:eg}{RJ:List Str}{vs:List aa}{ce:Env}{m:Str→Option aa}{A':bz}{n:Str}{v:aa}{p:Pos}{s:ai}{E:aa→ai→Prop}{Q:aa→ai→Prop}(f:InF sc RJ vs ce m)(hN:s.heap.Ns ce.locals m)(hv:(n,v)∈RJ.zip vs)(q:∀t,Q v {s with toks:=t}):wpAny (model pw w) A' (eval (.Name n p) ce) Q E s:=
 uv (j7 f.kind (f.at_ n v hv).1 hN (f.at_ n v hv).2.1 (q _)) (f.at_ n v hv).2.2
theorem bN{vs:List aa}(hd:A.depth+10<1000)(X:(KF w.params).In s.heap)(hlim:s.heap.NoLimit)(hl:vs.length=3)(hn:∀v∈vs,(v==ny)=false)
  (hR:∀cv s',vX w MA Lr (fun _ _ n v _=>(n,v)∈Lr.zip vs) s cv s'→R (.ok (.ret cv)) s'):ZU (model pw w) A (.call (.ref MA) ⟨vs,[]⟩) R s:=by
 refine Rf (V:=fun _ _ n v _=>(n,v)∈Lr.zip vs) hd (YF (Ls w.params)) (Dj w.params) X hlim hl (fun _ _ _ _ _ _ _ h=>h) (fun ce m x D A' f _ _ n e hm hp=> ?_) hR
 obtain⟨v,hv⟩:=Fz (ns:=Lr) (vs:=vs) hl hm
 intro s E _ hN _
 refine(jv.mp hp).elim (fun h=> ?_) fun h=> ?_
 ·obtain⟨p,e⟩:=Zt h
  subst e
  exact up (f.ev hN hv fun t=>⟨KS.tok s t,hv⟩)
 ·cases bJ h with|mk p1 p2 p3 p4 p5 k y q=>
  subst q
  refine S4 (ZV (up (f.ev hN hv fun t=> ?_)) rfl)
  refine up (wpAny_Constant_none ?_)
  refine up (yj (up (wpAny_truthy_bool ?_)))
  rw[hn v (List.of_mem_zip hv).2,if_neg fh]
  exact up (f.ev hN hv fun t=>⟨KS.tok s t,hv⟩)
inductive AbM(s:ai)(x D:Addr)(v:aa)(h:Heap):Prop
 |mk (b:Addr) (e:v= .ref b) (g:h.get? b=some (Wc #[])) (n:s.heap.get? b=none) (bx:b≠x) (bd:b≠D)
theorem bK(hd:A.depth+10<1000)(X:(KF w.params).In s.heap)(hlim:s.heap.NoLimit)(hg:s.heap.Ns mainGlobals ((HF w.params).nsMap mainGlobals))(hbl:s.heap.Ns builtinsNs ((HF w.params).nsMap builtinsNs))(hm1:(HF w.params).nsMap mainGlobals "bytearray"=none)(hm2:(HF w.params).nsMap builtinsNs "bytearray"=some (.type "bytearray"))
  (hR:∀cv s',vX w TY ["octets"] (fun x D _=>AbM s x D) s cv s'→R (.ok (.ret cv)) s'):ZU (model pw w) A (.call (.ref TY) ⟨[],[]⟩) R s:=by
 refine Rf (vs:=[]) (V:=fun x D _=>AbM s x D) hd (YF (Lu w.params)) (Dk w.params) X hlim rfl (fun x D n v h h' k q=> ?_) (fun ce m x D A' f _ _ n e hm hp=> ?_) hR
 ·cases q with|mk b e g n bx bd=>exact⟨b,e,k _ _ bd g,n,bx,bd⟩
 ·obtain⟨q,h1,h2⟩:=Zg hp
  obtain⟨p,h3⟩:=Zt (both h2).1
  have h1:=Y0 h1
  rw[h3,b6.mp (both (both h2).2).1,b6.mp (both (both h2).2).2] at h1
  subst h1
  intro s2 E k0 hN hne
  have hk:ce.kindOf "bytearray"=some .globalImplicit:=(f.sc▸beq_iff_eq.mp (wJ w.params):ce.scope.names.lookup ("bytearray":Str)=_)
  refine Z8 (up (j8 f.kind hk (xh (f.gl▸hg.keeps k0) hm1 (f.bl▸hbl.keeps k0) hm2 ?_) (by decide)))
  refine VG rfl (Yu rfl (Z6 ?_))
  have hz:=hne _ (Zs s2.heap)
  refine N2 fun h' k1 k2=>⟨⟨h',_,rfl,k1⟩,⟨_,rfl,k2,none_of k0 (Zs s2.heap),hz.1,hz.2⟩⟩
end
noncomputable def Ud(K:Frag)(C:Addr)(name:Str):Bool:=findIn K (.ref C) "__getattribute__"==some (some (.builtin "BaseException.__getattribute__"))&&(findIn K (.ref C) "__getattr__"==some none&&
 ((clsIn K C).any (fun cd=>cd.mro.contains (.type "BaseException")&& !cd.mro.isEmpty)&&(hasDictIn K C&&findIn K (.ref C) name==some none)))
theorem bO:builtinKind "BaseException.__getattribute__"=some .slot:=by decide+kernel
theorem Dl:splitId "BaseException.__getattribute__"=some ("BaseException","__getattribute__"):=by decide+kernel
theorem HO(P:b7):[(0,Ck),(0,dAt),(1,Ck),(1,dAt)].all (fun p=>Ud (KF P) (YI p.1) p.2)=true:=by kernel_rfl
section
variable{w:b3}{A:bz}{E:aa→ai→Prop}{s:ai}{K:Frag}
theorem kQ{x C:Addr}{ox od:Obj}{name:Str}{v:aa}{Q:aa→ai→Prop}(X:K.In s.heap)(I:InstAt s.heap x ox C (some od))(hs:Ud K C name=true)(hl:lookIn name od=some (some v))(hh:A04 v=true)
  (h:∀tk,Q v {s with toks:=tk}):wpAny (model pw w) A (getAttr (.ref x) name true) Q E s:=by
 obtain⟨hp,g,d,t,os⟩:=s
 have hs1:=both hs
 have hs2:=both hs1.2
 have hs3:=both hs2.2
 have hs4:=both hs3.2
 have h1:=beq_iff_eq.mp hs1.1
 have h2:=beq_iff_eq.mp hs2.1
 have h3:=hs3.1
 have h4:=hs4.1
 have h5:=beq_iff_eq.mp hs4.2
 have L0:=I.type (M:=model pw w)
 have L1:=uf (M:=model pw w) X h1
 have L2:=uf (M:=model pw w) X h2
 obtain⟨cd,hc,ho⟩:=Zg h3
 have ho:=both ho
 have ne:cd.mro.isEmpty=false:=nf ho.2
 have sub:A0a (model pw w) hp (isInstance (.ref x) (.type "BaseException")) true:=I.type.andThen (looks_mroIn X (by unfold mroIn;rw[hc,A1p,if_neg (by rw[ne];decide),ho.1]))
 have hf:findObj K C (some od) name=some (.value v):=findObj_own h4 h5 rfl hl
 have LF:=looks_find (M:=model pw w) X I hf
 have FB:=PySem.F.attr_Exception
 unfold getAttr getAttrBy
 refine ak (wpAny_mkText (o5 (ak (L0.at (ak (L1.at ?_))))))
 dsimp only
 have hx2:(ym "BaseException.__getattribute__"==ym "object.__getattribute__")=false:=by decide+kernel
 rw[hx2,u7,if_neg fh]
 unfold getAttrByItsOwn hookBefore
 rw[if_pos (show onTheHeap (.ref C)=true from rfl)]
 refine ak (L2.at ?_)
 refine ak (wpAny_attempt (o5 ?_))
 unfold callGetattribute boundAndCalled
 rw[show(true&&onTheHeap (ym "BaseException.__getattribute__"))=false from rfl,if_neg fh]
 refine ak (iz (FB.ga.bind (.ref x)) ?_)
 refine uu (v9 FB.ga.plain PySem.F.entry_bexc_ga (@check_slot (model pw w) _ _ _ "BaseException.__getattribute__" "BaseException" "__getattribute__" (.ref x) [.str name t] [] _ bO Dl sub (PySem.F.args_bexc_ga (.ref x) (.str name t)) ?_))
 unfold jt.«object.__getattribute__»
 refine ak (iz (a:=(gw x,[Value.str name t])) rfl ?_)
 refine ak (iz (a:=name) rfl ?_)
 refine ak (L0.at (ak (LF.at ?_)))
 refine bg ?_
 show wpAny (model pw w) A (handedOut v) Q E _
 rw[handedOut_of hh]
 exact bg (h _)
end
end
section
open PyProof.Rows PySem PySem.Calls PySem.SeqAt PySem.W
noncomputable abbrev Cf.re(c:Cf)(ρ:Ad)(νf:List Addr):Cf:={c with ρ:=ρ,νf:=νf}
noncomputable abbrev Cf.onB(c:Cf)(B:Heap):Cf:={c with B:=B}
section
variable{c:Cf}{ν:List Addr}{env:Ev}{st st':St}{s s':ai}{ρ':Ad}{νf':List Addr}
theorem Cf.Ok.re(ok:c.Ok):(c.re ρ' νf').Ok:=⟨ok.frames,ok.handled,ok.head,ok.frame,ok.Qn,ok.Sb,ok.slots,ok.kind,ok.globals,ok.builtins,ok.depth,ok.units⟩
theorem V1.none{w:b3}{ρ:Ad}{h:Heap}(a:∀a b,ρ.digits=some a→ρ.one=some b→a≠b):V1 w ν ρ {} h:=⟨fun _ e=>(nomatch e),fun _ e=>(nomatch e),fun _ e=>(nomatch e),fun _ _ _ e=>(nomatch e),a⟩
theorem SR.re{V:Addr}{sv:S}{cv:aa}(x:c.SR ν s.heap sv cv)(kp:Kp ν (V::ν) s.heap s'.heap)(y:c.Ht s.heap s'.heap)(hV:s.heap.get? V=none)(hρ:∀a∈YW ρ',a=V∨a∈YW c.ρ)(ht:∀t,sv= .tag t→O9 c.ρ t cv→O9 ρ' t cv):(c.re ρ' (V::c.νf)).SR (V::ν) s'.heap sv cv:=by
 have m1:∀{a o},s.heap.get? a=some o→WK c ν a→WK (c.re ρ' (V::c.νf)) (V::ν) a:=fun e m=>⟨.tail _ m.ν,fun q=>(ay.mp q).elim (fun q=>Zj hV e q.symm) m.f,m.h0,fun q=>(hρ _ q).elim (fun q=>Zj hV e q.symm) m.v,m.F⟩
 cases sv with
 |d d=>exact DR.mono kp x
 |tag t=>exact ht t rfl x
 |own l=>cases x with|mk a xs n e g r z m=>exact⟨a,xs,n,e,y.keep _ _ g Ym m.v m.F,r.mono kp,z,m1 g m⟩
 |X4 l=>cases x with|mk a arr e g r z m=>exact⟨a,arr,e,y.keep _ _ g TX m.v m.F,r,z,m1 g m⟩
theorem Cf.I.more{V:Addr}(i:c.I ν env st s)(y:c.Go s s')(hV:s.heap.get? V=none)(hVo:∃o,s'.heap.get? V=some o∧NF o)(hρ:∀a∈YW ρ',a=V∨a∈YW c.ρ)(hv:∀a∈YW c.ρ,a∈YW ρ'∨RG c.h0 a)
  (ht:∀(j:Nat) t v,env[j]?=some (some (S.tag t))→O9 c.ρ t v→O9 ρ' t v) (hstr:V1 c.w (V::ν) ρ' st' s'.heap):(c.re ρ' (V::c.νf)).I (V::ν) env st' s':=by
 have kp:Kp ν (V::ν) s.heap s'.heap:=fun b o e n hb=>⟨(i.kn y.h b o e n hb).1,fun q=>(ay.mp q).elim (fun q=>Zj hV e q.symm) hb⟩
 have i2:c.I (V::ν) env {} s':=i.to y.h y.os y.gens (.none i.str.apart) (fun p hp=>⟨y.al _ _ (i.X6 p hp).e (fun q=>(i.X6 p hp).n (i.volν _ q)) fun q=>(i.X6 p hp).n (i.frν _ q),fun q=>(ay.mp q).elim (fun q=>Zj hV (i.X6 p hp).e q.symm) (i.X6 p hp).n⟩) (i.al.trans y.al) (fun _=> .tail _) fun a q=>(ay.mp q).elim (fun q=> .inr (by subst q;exact⟨hV,hVo⟩)) .inl
 have nv:∀{b o},c.h0.get? b=some o→b∉YW ρ'→b∉YW c.ρ:=fun e hb q=>(hv _ q).elim hb fun w=>Zj w e rfl
 have nV:∀{a},a∈ν→a≠V:=fun h=>i.ZE hV h
 cases i.VE with|mk lm cm f=>
 have vv:∀{a},a∉YW c.ρ→a≠V→a∉YW ρ':=fun h1 h2 q=>(hρ _ q).elim h2 h1
 exact⟨i.base,i.lim,i.seer,i2.stays,i2.νB,i2.frames,hstr,⟨lm,cm,WL f.ns fun o ho hn=>y.h.VE _ _ ho hn f.SQ,fun n b e=>have q:=f.cell n b e;⟨(q.to (h':=s'.heap) fun b g n=>y.h.keep _ _ g n q.v q.F).is,vv q.v (q.is.elim fun o w=>(Zj hV w.1).symm),q.F,fun w=> .tail _ (q.f w),q.h0⟩,
   vv f.SQ (nV (i.fν _ f.lν)),.tail _ f.lν,f.l0,fun x j sv e1 e2=>match f.val x j sv e1 e2 with|⟨cv,e,r⟩=>⟨cv,e,SR.re r kp y.h hV hρ fun t q=>ht j t cv (q▸e2)⟩,f.KW⟩,
  fun a h=>(ay.mp h).elim (fun q=>q▸ .head _) fun h=> .tail _ (i.fν a h),fun a h=>(hρ a h).elim (fun q=>q▸ .head _) fun h=> .tail _ (i.SP a h),fun a h=> .tail _ (i.JR a h),fun a h=>vv (i.JS a h) (nV (i.frν a h)),i2.live,i2.gens,i2.Ws,i2.X6,
  ⟨fun b o e n h1 h2=>i2.sin.keep b o e n (nv e h1) h2,fun b o e n h1=>i2.sin.VE b o e n (nv e h1),i2.sin.live,i2.sin.stays⟩,i2.os,fun b o e h1 h2=>i2.al b o e (nv e h1) h2⟩
noncomputable def shrink(h:Heap)(ν:List Addr):Heap:=⟨h.objs.mapIdx fun a o=>if a∈ν then {o with data:= .freed} else o,h.life⟩
theorem Rg{h:Heap}{ν:List Addr}{a:Addr}(ha:a∈ν):(shrink h ν).get? a=none:=by
 unfold shrink Heap.get?
 rw[zz]
 cases e:h.objs[a]? with
 |none=>rfl
 |some o=>simp only[zq,if_pos ha]
theorem Vy{h:Heap}{ν:List Addr}{a:Addr}(ha:a∉ν):(shrink h ν).get? a=h.get? a:=by
 unfold shrink Heap.get?
 rw[zz]
 cases e:h.objs[a]? with
 |none=>rfl
 |some o=>simp only[zq,if_neg ha]
theorem JN{h B B':Heap}{l:List Env}(x:h.FunFrames B l)(k:∀L∈Uh l,B'.get? L=none):h.FunFrames B' l:=by
 induction l with
 |nil=>trivial
 |cons env rest ih=>
  obtain⟨hk,⟨L,o,hf,hn,ho,hd⟩,hr⟩:=x
  have e:Uh (env::rest)=L::Uh rest:=by rw[Uh,rz,hf]
  rw[e] at k
  exact⟨hk,⟨L,o,hf,k L (.head _),ho,hd⟩,ih hr fun L' hL'=>k L' (.tail _ hL')⟩
theorem Cf.I.wL(i:c.I ν env st s)(ok:c.Ok):cP (c.onB (shrink s.heap ν)) ν st s:=by
 have up:∀b o,c.B.get? b=some o→(shrink s.heap ν).get? b=some o:=fun b o e=>by
  rw[Vy fun q=>Zj (i.νB b q) e rfl];exact i.stays b o e
 exact⟨ok.frames,ok.handled,ok.depth,ok.units,fun b o e=>up b o (i.base b o e),i.lim.keeps up,i.seer.keeps up,fun b o e=>by
   by_cases q:b∈ν
   ·rw[Rg q] at e;exact no e
   ·rw[Vy q] at e;exact e,fun a ha=>Rg ha,JN i.frames fun L hL=>Rg (i.frν L hL),i.str,i.volν,i.frν,i.JS,i.live,i.gens,i.os⟩
end
end
section
open PyProof.Rows PySem PySem.Builtin PySem.Builtin.ObjectAttr PySem.Calls PySem.SeqAt PySem.W
structure HdV where
 t:Expr
 n:Str
 b:List Stmt
noncomputable def hdV:ExceptHandler→Option HdV
 | .ExceptHandler t n b _=>t.bind fun t=>n.map fun n=>⟨t,n,b⟩
theorem wM{h:ExceptHandler}{q:HdV}(e:hdV h=some q):∃p,h= .ExceptHandler (some q.t) (some q.n) q.b p:=by
 refine aj fun hn=> ?_
 cases h with|ExceptHandler t n b p=>
 obtain⟨t',h1,e⟩:=av.mp e
 obtain⟨n',h2,e⟩:=bk.mp e
 cases h1
 cases h2
 cases e
 exact hn (⟨p,rfl⟩)
noncomputable def Lw(x m:Str)(e:Expr):Bool:=(Sq e).any fun a=>isName x a.v&&a.m==m
noncomputable def AbN(t:Str):List Expr→Bool
 |[]=>false
 |a::r=>(XR a).any (isStr t)&&(match r with|[]=>false|b::r=>Lw "fault" "why" b&&(match r with|[]=>false|c::r=>Lw "fault" "at" c&&r.isEmpty))
noncomputable def hdB(t:Str):List Stmt→Bool
 |[]=>false
 |s::r=>(aQ s).any (fun e=>(jC e).any (AbN t))&&r.isEmpty
noncomputable def Oe(x t:Str)(h:ExceptHandler):Bool:=(hdV h).any fun q=>isName x q.t&&(q.n==("fault":Str)&&hdB t q.b)
inductive HdR(x t:Str)(h:ExceptHandler):Prop
 |mk (p1 p2 p3 p4 p5 p6 p7 p8 p9:Pos) (k k2:Nat) (e:h= .ExceptHandler (some (.Name x p1)) (some "fault") [.Return (some (.Tuple [.Constant (.str t) k p2,.Attribute (.Name "fault" p3) "why" p4,.Attribute (.Name "fault" p5) "at" p6] k2 p7)) p8] p9)
theorem Rh{x m:Str}{e:Expr}(h:Lw x m e=true):∃p q,e= .Attribute (.Name x p) m q:=by
 refine aj fun hn=> ?_
 obtain⟨a,h1,h2⟩:=Zg h
 obtain⟨p,h3⟩:=Zt (both h2).1
 have h1:=Wy h1
 rw[h3,(beq_iff_eq.mp (both h2).2:a.m=m)] at h1
 exact hn (⟨p,_,h1⟩)
theorem F8{x t:Str}{h:ExceptHandler}(e:Oe x t h=true):HdR x t h:=by
 obtain⟨q,h1,e⟩:=Zg e
 obtain⟨p9,h1⟩:=wM h1
 obtain⟨p1,h2⟩:=Zt (both e).1
 have h3:q.n="fault":=beq_iff_eq.mp (both (both e).2).1
 have h4:=(both (both e).2).2
 rw[h2,h3] at h1
 generalize q.b=b at h1 h4
 cases b with
 |nil=>exact ff h4
 |cons s r=>
 obtain⟨v,h5,h6⟩:=Zg (both h4).1
 obtain⟨es,h7,h8⟩:=Zg h6
 obtain⟨p8,h5⟩:=Lj h5
 obtain⟨k2,p7,h7⟩:=Fe h7
 cases es with
 |nil=>exact ff h8
 |cons a es=>
 obtain⟨c,h9,L9⟩:=Zg (both h8).1
 obtain⟨k,p2,h9⟩:=X9 h9
 cases es with
 |nil=>exact ff (both h8).2
 |cons b es=>
 have h11:=both (both h8).2
 obtain⟨p3,p4,h12⟩:=Rh h11.1
 cases es with
 |nil=>exact ff h11.2
 |cons d es=>
 obtain⟨p5,p6,h13⟩:=Rh (both h11.2).1
 rw[JA L9] at h9
 rw[b6.mp (both h11.2).2,h9,h12,h13] at h7
 rw[b6.mp (both h4).2,h5,h7] at h1
 exact⟨p1,p2,p3,p4,p5,p6,p7,p8,p9,k,k2,h1⟩
structure Cg(c:Cf)(e:Addr)(k:Nat)(od:Obj)(d:Addr)(lm:Str→Option aa)(fl:aa)(s:ai):Prop where
 exc:Exc c.B c.F e k od d (some fl) s.heap
 stays:c.B.StaysIn s.heap
 ns:s.heap.Ns c.ce.locals lm
theorem kR(P:b7):[((0,(.ref 154:aa)),true),((1,.ref 154),false),((1,.ref 173),true)].all (fun q=>exmOne (KF P) (.ref (YI q.1.1)) q.1.2==some q.2)=true:=by kernel_rfl
section
variable{c:Cf}{e d:Addr}{k:Nat}{od:Obj}{YY:Str}{at_:Int}{lm:Str→Option aa}{fl:aa}{s:ai}{A:bz}{E:aa→ai→Prop}
theorem AbP(bs:Sz c.w c.B)(g:Cg c e k od d lm fl s):(KF c.w.params).In s.heap:=(HW bs).keeps g.stays
theorem FD{x:Str}{C:Addr}{b:Bool}{pos p:Pos}{R:ly→ai→Prop}(ok:c.Ok)(bs:Sz c.w c.B)(g:Cg c e k od d lm fl s)(hk:GI c x)
  (hm:(HF c.w.params).nsMap mainGlobals x=some (.ref C)) (hx:exmOne (KF c.w.params) (.ref (YI k)) (.ref C)=some b) (h:R (.ok (if b then .brk else .next)) s):
  codeAny c.M A (.handlers (.ref e) [.ExceptHandler (some (.Name x p)) none [] pos] c.ce) R s:=by
 have N:s.heap.Ns mainGlobals ((HF c.w.params).nsMap mainGlobals):=(vo (S1 _)).keeps fun b o e=>g.stays b o (bs b o e)
 refine aj fun hn=> ?_
 cases g.exc with|mk oe vs he hc hdi hd tb=>
 exact hn (codeAny_handlers_test (j8 ok.kind hk.k (qu (ok.globals▸N) hm ((exm_one (AbP bs g) ((Looks.ld he).andThen (hc▸ .now)) hx).here h)) hk.d))
theorem F9{nm:Str}{pos p:Pos}{v:aa}{Q:aa→ai→Prop}(ok:c.Ok)(bs:Sz c.w c.B)(g:Cg c e k od d lm fl s)(hf:c.ce.kindOf "fault"=some .local)(hl:lm "fault"=some (.ref e))(hn:Ud (KF c.w.params) (YI k) nm=true)
  (hv:lookIn nm od=some (some v)) (hh:A04 v=true) (h:∀tk,Q v {s with toks:=tk}):wpAny c.M A (eval (.Attribute (.Name "fault" p) nm pos) c.ce) Q E s:=by
 cases g.exc with|mk oe vs he hc hdi hd tb hod=>
 rw[sx,Rb rfl]
 refine ak (uv (j7 ok.kind hf g.ns hl ?_) (by decide))
 refine ak (qi (ak (o5 ?_)))
 refine kQ (ox:=oe) (od:=od) (AbP bs g) ⟨he,hc,?_,by rw[hdi];exact hod⟩ hn hv hh fun tk=>ak (wpAny_letTemporaryGo (bg (h tk)))
 obtain⟨a,b,cc,dd⟩:=oe
 cases hd;rfl
def KN(L:Addr)(h h':Heap):Prop:=∀b o,b≠L→h.get? b=some o→NF o→h'.get? b=some o
inductive AbO(c:Cf)(s:ai)(t YY:Str)(at_:Int)(a:Addr)(s':ai):Prop
 |mk (t1 t2 t3:Tok) (kn:KN c.ce.locals s.heap s'.heap) (lv:∃o,s'.heap.get? c.ce.locals=some o∧NF o) (n:∀o,s.heap.get? a=some o→¬NF o) (al:a≠c.ce.locals) (g:s'.heap.get? a=some (TV #[.str t t1,.str YY t2,.int at_ t3] 0)) (st:c.B.StaysIn s'.heap) (os:s'.os=s.os) (gens:s'.gens=s.gens)
theorem bP{w:b3}(x:ExcAt w od YY at_):∃t ta,lookIn Ck od=some (some (.str YY t))∧lookIn dAt od=some (some (.int at_ ta)):=by
 refine aj fun hn=> ?_
 cases x with|mk es n t ta e r=>
 subst e
 exact hn (⟨t,ta,(show getL Ck es.toArray.toList=_ by rw[w4];exact r.get),(show getL dAt es.toArray.toList=_ by rw[w4];exact r.get)⟩)
theorem Exc.but{B:Heap}{F:List Addr}{L:Addr}{fl:Option aa}{h h':Heap}(x:Exc B F e k od d fl h)(sb:gu L h h')(hL:∃o,h.get? L=some o∧NF o)(hd:d≠L):Exc B F e k od d fl h':=by
 obtain⟨oL,hoL,nL⟩:=hL
 have ne:∀{a:Addr} {o:Obj} {ws:Array aa},h.get? a=some o→o.data= .fields ws→a≠L:=fun e1 e2=>OQ e1 e2 hoL nL
 cases x with|mk oe vs he hc hdi hdd tb hod nf out dF=>
 refine⟨oe,vs,(sb.2 _ (ne he hdd)).trans he,hc,hdi,hdd,?_,(sb.2 _ hd).trans hod,nf,out,dF⟩
 cases fl with
 |none=>exact tb
 |some f=>cases tb with|mk T oT ts t1 t2 t3 t4 t5 t6=>exact⟨T,oT,ts,t1,t2,t3,(sb.2 _ (ne t4 t5)).trans t4,t5,t6⟩
theorem FA{hd:ExceptHandler}{rest:List ExceptHandler}{x t:Str}{C:Addr}{Q:Flow→ai→Prop}(ok:c.Ok)(bs:Sz c.w c.B)(g:Cg c e k od d lm fl s)(xa:ExcAt c.w od YY at_)(h1:Oe x t hd=true)(hk:GI c x)
  (hm:(HF c.w.params).nsMap mainGlobals x=some (.ref C)) (hx:exmOne (KF c.w.params) (.ref (YI k)) (.ref C)=some true) (hf:c.ce.kindOf "fault"=some .local) (hw:Ud (KF c.w.params) (YI k) Ck=true) (ha:Ud (KF c.w.params) (YI k) dAt=true)
  (hLF:c.ce.locals∈c.F) (hBL:c.B.get? c.ce.locals=none) (hQ:∀a s',AbO c s t YY at_ a s'→Q (.ret (.ref a)) s'):wpAny c.M c.A (A0X (.ref e) c.ce (hd::rest)) Q E s:=by
 refine aj fun hn=> ?_
 cases F8 h1 with|mk p1 p2 p3 p4 p5 p6 p7 p8 p9 kk k2 eh=>
 subst eh
 obtain⟨tw,ta,lw,la⟩:=bP xa
 have fc:(c.ce.scope.kind== .class||(c.ce.scope.kind== .module&&c.ce.locals !=c.ce.globals))=false:=by rw[ok.kind];rfl
 refine hn (wpAny_handleBy_cons (FD ok bs g hk hm hx ?_) (fun q=>nomatch q))
 show codeAny _ _ (.handlers (.ref e) [.ExceptHandler none (some "fault") [_] _] c.ce) _ s
 refine codeAny_handlers_suite_as (Vh (F:=[]) (to:=none) rfl g.stays (g.exc.mono fun _ h=>nomatch h) fun h1 y=> ?_)
 have k1:∀b o,s.heap.get? b=some o→NF o→h1.get? b=some o:=fun b o e n=>(y.XO b o e n).keep fun h=>nomatch h
 have n1:h1.Ns c.ce.locals lm:=g.ns.elim fun o w=>w.elim fun es w=>w.elim fun ep w=>⟨o,es,ep,k1 _ _ w.1 (fun vs q=>nomatch w.2.1.symm.trans q),w.2⟩
 refine zx hf n1 (fun h2 n2 sb2=> ?_) fc
 have ne:∀{a},c.B.get? a≠none→a≠c.ce.locals:=fun h q=>h (q▸hBL)
 have x1:Exc c.B c.F e k od d (some .none) h1:=by
  have dF:=g.exc
  cases dF with|mk _ _ _ _ _ _ _ _ _ _ dF=>cases y.exc with|mk oe vs he hc hdi hdd tb hod nf out _=>exact⟨oe,vs,he,hc,hdi,hdd,tb,hod,nf,out,dF⟩
 have dL:d≠c.ce.locals:=by cases x1 with|mk _ _ _ _ _ _ _ _ _ _ dF=>exact fun q=>dF (q▸hLF)
 have g2:∀tk,Cg c e k od d (fun x=>if x="fault" then some (.ref e) else lm x) .none {s with heap:=h2,toks:=tk}:=fun tk=>⟨x1.but sb2 (TZ n1) dL,fun b o eb=>(sb2.2 b (fun q=>Zj hBL eb q.symm)).trans (y.stays b o eb),n2⟩
 refine oz (wpAny_Return_some (wpAny_Tuple_spliced ?_))
 rw[ZH rfl,jq,jq,jq,qe]
 refine PySem.Calls.spliced_cons (PySem.Calls.Constant_str ?_)
 refine PySem.Calls.spliced_cons (F9 ok bs (g2 _) hf (if_pos rfl) hw lw rfl fun tk1=> ?_)
 refine PySem.Calls.spliced_cons (F9 ok bs (g2 _) hf (if_pos rfl) ha la rfl fun tk2=> ?_)
 refine PySem.Calls.spliced_nil ⟨by rw[xy];show 3≤_;decide,?_⟩
 have n3:(h2.push (TV #[.str t (s.toks+1),.str YY tw,.int at_ ta] 0)).Ns c.ce.locals (fun x=>if x="fault" then some (.ref e) else lm x):=n2.elim fun o w=>w.elim fun es w=>w.elim fun ep w=>⟨o,es,ep,au _ w.1,w.2⟩
 refine wpAny_nameGoes (s:={s with heap:=h2.push (TV #[.str t (s.toks+1),.str YY tw,.int at_ ta] 0),toks:=tk2}) hf n3 fc fun h4 m4 n4 sb4=> ?_
 have aL:h2.objs.size≠c.ce.locals:=fun q=>(TZ n2).elim fun o w=>Zj (Zs h2) w.1 q
 refine hQ h2.objs.size _ ⟨_,tw,ta,fun b o n eb nf=>(sb4.2 b n).trans (au _ ((sb2.2 b n).trans (k1 b o eb nf))),TZ n4,fun o eo nf=> ?_,aL,(sb4.2 _ aL).trans (b9 _ rfl),fun b o eb=> ?_,rfl,rfl⟩
 ·exact no ((Zs h2).symm.trans ((sb2.2 _ aL).trans (k1 _ o eo nf)))
 ·exact(sb4.2 b (fun q=>Zj hBL eb q.symm)).trans (au _ ((g2 0).stays b o eb))
theorem bQ{hd:ExceptHandler}{rest:List ExceptHandler}{x t:Str}{C:Addr}{Q:Flow→ai→Prop}(ok:c.Ok)(bs:Sz c.w c.B)(g:Cg c e k od d lm fl s)(h1:Oe x t hd=true)(hk:GI c x)
  (hm:(HF c.w.params).nsMap mainGlobals x=some (.ref C)) (hx:exmOne (KF c.w.params) (.ref (YI k)) (.ref C)=some false) (h:wpAny c.M c.A (A0X (.ref e) c.ce rest) Q E s):wpAny c.M c.A (A0X (.ref e) c.ce (hd::rest)) Q E s:=by
 cases F8 h1 with|mk p1 p2 p3 p4 p5 p6 p7 p8 p9 kk k2 eh=>
 subst eh
 exact wpAny_handleBy_cons (FD ok bs g hk hm hx h) (fun q=>nomatch q)
end
noncomputable def Vz:NM:=[("octets",0),("begin",1),("end",2),("sort",3),("cursor",4),("thing",5)]
noncomputable def kU:List Str:=["octets","begin","end","sort"]
structure wN where
 b:List Stmt
 h1:ExceptHandler
 h2:ExceptHandler
noncomputable def two{α β:Type}(l:List α)(f:α→α→β):Option β:=match l with
 |[]=>none
 |a::r=>(match r with|[]=>none|b::r=>(match r with|[]=>some (f a b)|_=>none))
theorem wO{α β:Type}{l:List α}{f:α→α→β}{x:β}(h:two l f=some x):∃a b,l=[a,b]∧f a b=x:=by
 cases l with
 |nil=>exact no h
 |cons a r=>cases r with
  |nil=>exact no h
  |cons b r=>cases r with
   |nil=>exact⟨a,b,rfl,bh h⟩
   |cons _ _=>exact no h
noncomputable def AbQ:Stmt→Option wN
 | .Try b hs o f _=>cond (o.isEmpty&&f.isEmpty) (two hs fun x y=>⟨b,x,y⟩) none
 |_=>none
theorem kW{s:Stmt}{q:wN}(h:AbQ s=some q):∃p,s= .Try q.b [q.h1,q.h2] [] [] p:=by
 cases s with
 |Try b hs o f p=>
  have k:=Zy h
  obtain⟨x,y,e,e2⟩:=wO k.2
  rw[b6.mp (both k.1).1,b6.mp (both k.1).2,e,← e2]
  exact⟨p,rfl⟩
 |_=>exact no h
structure RdP where
 es:List Expr
 t:wN
 s3:List Stmt
noncomputable def rdP:List Stmt→Option RdP
 |[]=>none
 |a::r=>(HC a).bind fun q=>(Wz q.v).bind fun v=>cond (isName "cursor" q.t&&(isName "Cursor" v.f&&(v.UA.isEmpty&&noStar v.es))) (match r with|[]=>none|b::r=>(AbQ b).map fun t=>⟨v.es,t,r⟩) none
inductive RdR(b:List Stmt)(q:RdP):Prop
 |mk (p1 p2 p3 p4 p5:Pos) (e:b= .Assign [.Name "cursor" p1] (.Call (.Name "Cursor" p2) q.es [] p3) p4:: .Try q.t.b [q.t.h1,q.t.h2] [] [] p5::q.s3) (ns:noStar q.es=true)
theorem wQ{b:List Stmt}{q:RdP}(h:rdP b=some q):RdR b q:=by
 cases b with
 |nil=>exact no h
 |cons a r=>
  obtain⟨g,h1,h⟩:=av.mp h
  obtain⟨v,h2,h⟩:=av.mp h
  obtain⟨h3,h⟩:=Zy h
  obtain⟨p4,h1⟩:=Um h1
  have h2:=Y0 h2
  obtain⟨p1,e1⟩:=Zt (both h3).1
  obtain⟨p2,e2⟩:=Zt (both (both h3).2).1
  have h4:=both (both (both h3).2).2
  rw[e2,b6.mp h4.1] at h2
  rw[e1,h2] at h1
  cases r with
  |nil=>exact no h
  |cons b r=>
   obtain⟨t,h5,e⟩:=bk.mp h
   obtain⟨p5,h5⟩:=kW h5
   subst e
   exact⟨p1,p2,_,p4,p5,by rw[h1,h5],h4.2⟩
noncomputable def rdB:PS:= .seq (.set 5 (.call 950 (.cons (.var 4) (.cons (.var 3) .nil)))) .skip
noncomputable def rdS:PS:= .seq (.Zl (.tup (.cons (.lit (.str "a thing")) (.cons (.var 5) (.cons (.attr (.var 4) 1) .nil))))) .skip
noncomputable def rdA:PE:= .cons (.blt 4 (.cons (.var 0) .nil)) (.cons (.var 1) (.cons (.var 2) .nil))
theorem bS(P:b7):(rdP (bodyOf (fdOf (KF P) 957))).map (fun p=>(NB ((tr 200).E (fdOf (KF P) 957).scope Vz) p.es,WZ (tr 200) (fdOf (KF P) 957).scope Vz [] 60 p.t.b,WZ (tr 200) (fdOf (KF P) 957).scope Vz [] 60 p.s3))=some (rdA,rdB,rdS):=by kernel_rfl
noncomputable def bR(sc:eg)(b:List Stmt):Bool:=(rdP b).any (fun p=>Oe "Malformed" "malformed" p.t.h1&&Oe "LeftOut" "left out" p.t.h2)&&(Xl sc Vz "Cursor"&&(Xl sc Vz "Malformed"&&(Xl sc Vz "LeftOut"&&(Xk true sc Vz "cursor" 4&&sc.names.lookup ("fault":Str)==some .local))))
theorem bU(P:b7):(V5 (KF P) 957&&(RK (fdOf (KF P) 957).scope Vz kU&&bR (fdOf (KF P) 957).scope (bodyOf (fdOf (KF P) 957))))=true:=by kernel_rfl
theorem kT(P:b7)(S:jw)(a b c d:aa):peek (KF P) S (m6 (fdOf (KF P) 957) ⟨[a,b,c,d],[]⟩)=some (kU.zip [a,b,c,d]):=by kernel_rfl
structure RdF(P:b7)(fd:jh)(o:Obj):Prop where
 f:Yt P 957 fd o (bodyOf fd) kU
 s:RK fd.scope Vz kU=true
 c:bR fd.scope (bodyOf fd)=true
theorem bT(P:b7):RdF P (fdOf (KF P) 957) (objOf (KF P) 957):=
 have h:=both (bU P)
 ⟨YX h.1 fun S vals hl=>by
  obtain⟨a,r,e,h⟩:=Yo hl
  obtain⟨b,r2,e2,h⟩:=Yo h
  obtain⟨c,r3,e3,h⟩:=Yo h
  obtain⟨d,r4,e4,h⟩:=Yo h
  cases RL h
  subst e e2 e3 e4
  exact kT P S a b c d,(both h.2).1,(both h.2).2⟩
theorem Of{M:o8}{A:bz}{E:aa→ai→Prop}{s:ai}{env:Env}{body orelse:List Stmt}{h₀:ExceptHandler}{hs:List ExceptHandler}{pos:Pos}{Q:Flow→ai→Prop}
  (h:Zh M A (execs body env) (fun f s₁=>match f with| .next=>Zh M A (execs orelse env) Q E s₁|f=>Q f s₁)
   (fun e s₁=>Zh M A (n7 e env) (fun _ s₂=>Zh M A (setFlight e none) (fun _ s₃=>Zh M A (A0X e env (h₀::hs)) Q E s₃) E s₂) E s₁) s):
  Zh M A (exec (.Try body (h₀::hs) orelse [] pos) env) Q E s:=by
 rw[arm_exec_Try]
 refine Zp ?_
 unfold tryStmt
 simp only[List.isEmpty_nil,if_true,List.isEmpty_cons,Bool.false_and,sf,if_false]
 refine Zb (Rn (Zi h (fun f s₁ h₁=> ?_) fun e s₁ h₁=> ?_))
 ·cases f<;>first|exact h₁|exact Zc h₁
 ·exact Zb (Zi h₁ (fun _ _ h₂=>Zb h₂) fun _ _ x=>x)
structure RdZ(c:Cf)(st:St)(s':ai):Prop where
 ht:c.Ht c.h0 s'.heap
 stays:c.B.StaysIn s'.heap
 str:V1 c.w c.νf c.ρ st s'.heap
 os:s'.os=c.os
 gens:s'.gens= #[]
section
variable{C:Cx}{c:Cf}{ν νc:List Addr}{env:Ev}{st st':St}{s s':ai}{R:aa→ai→Prop}{E:aa→ai→Prop}{Q:D→St→Prop}
theorem Cf.Ht.kn{L:Addr}{h h':Heap}(x:c.Ht c.h0 h)(y:KN L h h')(h0:RG c.h0 L)(st:c.B.StaysIn h'):c.Ht c.h0 h':=
 have ne:∀{b o},c.h0.get? b=some o→b≠L:=fun e=>(Zj h0 e).symm
 ⟨fun b o e n h1 h2=>y b o (ne e) (x.keep b o e n h1 h2) n,fun b o e n h1=>(x.VE b o e n h1).elim fun sl e1=>⟨sl,y b _ (ne e) e1 n⟩,fun b o e n=>(x.live b o e n).elim fun o1 h=>⟨o1,y b o1 (ne e) h.1 h.2,h.2⟩,fun _=>st⟩
theorem HP{k:Nat}{e d:Addr}{od:Obj}{YY:Str}{at_:Int}{h1 h2:ExceptHandler}{Qf:Flow→ai→Prop}{lm:Str→Option aa}(ok:c.Ok)(i:c.I ν env st s)(g:Cg c e k od d lm .none s')(xa:ExcAt c.w od YY at_)(hh1:Oe "Malformed" "malformed" h1=true)(hh2:Oe "LeftOut" "left out" h2=true)(gM:GI c "Malformed")(gL:GI c "LeftOut")(kf:c.ce.kindOf "fault"=some .local)(hLF:c.ce.locals∈c.F)
  (hQ:∀a s'',AbO c s' (fU k) YY at_ a s''→Qf (.ret (.ref a)) s''):wpAny c.M c.A (A0X (.ref e) c.ce [h1,h2]) Qf E s':=by
 have nM:(HF c.w.params).nsMap mainGlobals "Malformed"=some (.ref (YI 0)):=(Lq c.w.params (x:="Malformed") (k:=0) (by kernel_rfl)).nm
 have nL:(HF c.w.params).nsMap mainGlobals "LeftOut"=some (.ref (YI 1)):=(Lq c.w.params (x:="LeftOut") (k:=1) (by kernel_rfl)).nm
 have xm:=fun q hq=>beq_iff_eq.mp (az.mp (kR c.w.params) q hq)
 have xg:=fun q hq=>az.mp (HO c.w.params) q hq
 have hBL:=i.νB _ (i.frν _ hLF)
 cases k with
 |zero=>exact FA ok i.base g xa hh1 gM nM (xm _ (.head _)) kf (xg _ (.head _)) (xg _ (.tail _ (.head _))) hLF hBL hQ
 |succ k=>exact bQ ok i.base g hh1 gM nM (xm _ (.tail _ (.head _))) (FA ok i.base g xa hh2 gL nL (xm _ (.tail _ (.tail _ (.head _)))) kf (xg _ (.tail _ (.tail _ (.head _)))) (xg _ (.tail _ (.tail _ (.tail _ (.head _))))) hLF hBL hQ)
set_option backward.match.sparseCases true in
theorem bV{tb s3:List Stmt}{h1 h2:ExceptHandler}{p:Pos}(ok:c.Ok)(i:c.I ν env st s)(hν:∀a∈νc,a∈c.νf∧∃o,c.h0.get? a=some o∧NF o)(L2:Wv C c tb rdB)(L3:Wv C c s3 rdS)(hh1:Oe "Malformed" "malformed" h1=true)(hh2:Oe "LeftOut" "left out" h2=true)(gM:GI c "Malformed")(gL:GI c "LeftOut")(kf:c.ce.kindOf "fault"=some .local)(hLF:c.ce.locals∈c.F)
  (hq:wpS C rdB env st (fun env st=>wpS C rdS env st (fun _ _=>False) Q To) noR fun j YY at_ st=>Q (KP (fU j) (YY,at_)) st) (hR:∀cv s' d st',Q d st'→DR c.w νc s'.heap d cv→RdZ c st' s'→R cv s'):
  Zh c.M c.A (execs (.Try tb [h1,h2] [] [] p::s3) c.ce) (fun f s'=>R (match f with| .ret v=>v|_=> .none) s') E s:=by
 refine ZP (Of (Zi (L2 _ _ _ _ noR _ _ i hq) (fun fl s5 hp=> ?_) fun ev s5 x=> ?_))
 ·cases fl with
  |next=>cases hp with|mk ν5 env5 st5 q5 i5=>
   refine ZY (Zi (L3 _ _ _ _ _ _ _ i5 q5) (fun fl s6 hp=> ?_) fun ev s6 x=>x.no.elim)
   cases fl with
   |ret v=>cases hp with|mk d st6 env6 q6 r6 i6=>exact hR _ _ _ _ q6 (r6.shrink fun a h=>(hν a h).1) ⟨i6.sin,i6.stays,i6.str,i6.os,i6.gens⟩
   |next=>cases hp with|mk _ _ _ q _=>exact False.elim q
   |_=>exact False.elim hp
  |ret v=>cases hp with|mk d _ _ q _ _=>exact False.elim q
  |_=>exact False.elim hp
 ·cases x with|mk e k YY at_ st' od d fl a1 a2 a3 a4 a5 a6 a7 a8 a9 a10 a11 a12=>
  obtain⟨fenv,outer,hfr,hL,g1,g2,g3,g4⟩:=ok.head
  subst a1
  rw[V3 (ok.frame.trans hL.symm)]
  have hF:c.F=Uh (fenv::outer):=congrArg Uh hfr
  rw[hF] at a3
  refine up (QA (ok.frames.trans (congrArg some hfr)) hL (hfr▸a8) a7 a3 a4 fun h₁ y=> ?_)
  rw[← hF] at y
  refine up (Vh (F:=c.F) (to:=none) rfl y.stays y.exc fun h₂ z=>up ?_)
  refine aj fun hn=> ?_
  obtain⟨lm,n5⟩:=a12
  have n6:h₂.Ns c.ce.locals lm:=WL (WL n5 fun o ho hn=>(y.XO _ _ ho hn).slot) fun o ho hn=>(z.XO _ _ ho hn).slot
  refine hn (HP ok i (s':={s5 with heap:=h₂}) ⟨z.exc,z.stays,n6⟩ a5 hh1 hh2 gM gL kf hLF fun a s6 x=> ?_)
  refine aj fun hn=> ?_
  cases i.VE with|mk lm0 cm f=>
  cases x with|mk t1 t2 t3 kn lv na al g st os gens=>
  refine hn (hR _ _ _ _ a2 (.tup g (fun q=> ?_) (.cons (.str _ _) (.cons (.str _ _) (.cons (.int _ _) .nil))) (by show 3≤16777216;decide)) ⟨((a9.XO y.XO y.stays).XO z.XO z.stays).kn kn f.l0 st,st,((a6.XO y.XO i.JR i.JS).XO z.XO i.JR i.JS).kv fun b o e n q=>kn b o (fun w=>f.SQ (w▸q (w▸f.lν))) e n,os.trans a10,gens.trans a11⟩)
  refine aj fun hn=> ?_
  obtain⟨o,e,n⟩:=(hν a q).2
  obtain⟨o1,e1,m1⟩:=a9.live a o e n
  obtain⟨sl,e2⟩:=(y.XO a o1 e1 m1).slot
  obtain⟨sl',e3⟩:=(z.XO a _ e2 m1).slot
  exact hn (na _ e3 m1)
end
theorem kX{l:List S}{K:S→S→S→S→Prop}{P:Prop}(h:on4 l K)(k:∀a b c d,l=[a,b,c,d]→K a b c d→P):P:=by
 cases l with
 |nil=>exact h.elim
 |cons a l=>cases l with
  |nil=>exact h.elim
  |cons b l=>cases l with
   |nil=>exact h.elim
   |cons c l=>cases l with
    |nil=>exact h.elim
    |cons d l=>cases l with
     |nil=>exact k a b c d rfl h
     |cons _ _=>exact h.elim
theorem FE{a:S}{K:D→Prop}{P:Prop}(h:RQ a K)(k:∀v,a= .d v→K v→P):P:=by
 cases a with
 |d v=>exact k v rfl h
 |_=>exact h.elim
theorem Dp{a:S}{K:List D→Prop}{P:Prop}(h:V0 a K)(k:∀l,a= .d (.list l)→K l→P):P:=FE h fun v e h=>by
 cases v with
 |list l=>exact k l e h
 |_=>exact h.elim
theorem Ri{a:S}{K:Int→Prop}{P:Prop}(h:ZK a K)(k:∀i,a= .d (.int i)→K i→P):P:=FE h fun v e h=>by
 cases v with
 |int l=>exact k l e h
 |_=>exact h.elim
inductive RdQ(C:Cx)(vs:List S)(st:St)(Q:D→St→Prop):Prop
 |mk (l:List D) (b e k:Int) (ns:List Int) (ev:vs=[.d (.list l),.d (.int b),.d (.int e),.d (.int k)]) (hc:st.cur=none) (hi:YQ l=some ns) (hb:ns.all ZR=true) (q:Rq C ns b e k st Q)
theorem Dm{C:Cx}{vs:List S}{st:St}{Q:D→St→Prop}(h:Ba C vs st Q):RdQ C vs st Q:=
 kX h fun a b c d e1 h=>Dp h fun l e2 h=>Ri h fun b e3 h=>Ri h fun e e4 h=>Ri h fun k e5 h=>Zw (Zk h).2 fun ns hi q=>by
  subst e1 e2 e3 e4 e5
  exact⟨l,b,e,k,ns,rfl,gm.mp (Zk h).1,hi,(Zk q).1,(Zk q).2⟩
noncomputable abbrev rdE(l:List D)(b e k:Int)(x4 x5:Option S):Ev:=[some (.d (.list l)),some (.d (.int b)),some (.d (.int e)),some (.d (.int k)),x4,x5]
theorem bW{C:Cx}{ns:List Int}{l:List D}{b e k:Int}{st:St}{Q:D→St→Prop}(h:Rq C ns b e k st Q):
  wpS C rdB (rdE l b e k (some (.tag .cur)) none) (st.c ns b e) (fun env st=>wpS C rdS env st (fun _ _=>False) (fun d st=>Q d st.u) To) noR fun j YY at_ st=>Q (KP (fU j) (YY,at_)) st.u:=kr h (by kernel_rfl)
theorem wR{C:Cx}{ns:List Int}{l:List D}{b e k:Int}{st:St}{x4 x5:Option S}(hi:YQ l=some ns)(hb:ns.all ZR=true):Wa C rdA (rdE l b e k x4 x5) st (fun svs st1=>svs=[.d (.bytes ns),.d (.int b),.d (.int e)]∧st1=st) To:=
 Yh hi (Z5 hb ⟨rfl,rfl⟩)
theorem V1.ad{w:b3}{ν ν':List Addr}{ρ ρ':Ad}{st:St}{h:Heap}(x:V1 w ν ρ st h)(h1:ρ'.digits=ρ.digits)(h2:ρ'.one=ρ.one)(h3:ρ'.V2=ρ.V2)(h4:ρ'.Np=ρ.Np)(hν:∀a∈ν',a∈ν):V1 w ν' ρ' st.u h:=by
 refine⟨fun l e=> ?_,fun i e=> ?_,fun l e=> ?_,fun l a e q=>(nomatch q),fun a b e1 e2=>x.apart a b (h1.symm.trans e1) (h2.symm.trans e2)⟩
 ·cases x.digits l e with|mk a vs n q g r=>exact⟨a,vs,n,h1.trans q,g,r⟩
 ·cases x.one i e with|mk a t n q g=>exact⟨a,t,n,h2.trans q,g⟩
 ·cases x.sink l e with|mk b d arr es n q g1 n1 g2 n2 r g3 q2=>exact⟨b,d,arr,es,n,h3.trans q,h4▸g1,h4▸fun m=>n1 (hν _ m),g2,fun m=>n2 (hν _ m),r,g3,q2⟩
theorem Un{ρ:Ad}{a:Addr}(h:a∈YW ρ):ρ.digits=some a∨ρ.one=some a∨ρ.V2=some a∨ρ.O7=some a:=by
 refine aj fun hn=> ?_
 obtain⟨o,m,e⟩:=su.mp h
 have e:o=some a:=e
 subst e
 exact hn ((ay.mp m).elim (fun q=> .inl q.symm) fun m=>(ay.mp m).elim (fun q=> .inr (.inl q.symm)) fun m=>(ay.mp m).elim (fun q=> .inr (.inr (.inl q.symm))) fun m=> .inr (.inr (.inr (iy.mp m).symm)))
theorem Xa{ρ:Ad}{a:Addr}(h:ρ.digits=some a∨ρ.one=some a∨ρ.V2=some a∨ρ.O7=some a):a∈YW ρ:=h.elim US fun h=>h.elim Qm fun h=>h.elim WM Ql
section
variable{c:Cf}{ν:List Addr}{env:Ev}{st st':St}{s s':ai}{X:Xp}{Q:D→St→Prop}
theorem AeH(r:Nat):ET (Cp QD r) r:=HH (calls r) fun c ok _ x p pos cp es k a h1 h2 h3 h4=>Te ok h1 h2 h3 h4
theorem Dq{ρ1:Ad}{D:Addr}{h₁:Heap}{lm cm:Str→Option aa}{sc:eg}{ce:Env}{nm:NM}{r:Nat}{νf:List Addr}(i:c.I ν env st s)(N:Sp sc ce s.heap h₁ lm cm)(hD:s.heap.get? D=none)(hρ:∀a∈YW ρ1,a=D∨a∈YW c.ρ)(hν:∀a∈ν,a∈νf)
  (z:RdZ (((c.onB (shrink s.heap ν)).deep ρ1 ν ce nm r s.heap).re ρ1 νf) st' s'):c.Go s s':=by
 have nv:∀{b o},s.heap.get? b=some o→b∉YW c.ρ→b∉YW ρ1:=fun e h q=>(hρ _ q).elim (fun q=>Zj hD e q.symm) h
 have nF:∀{b o},s.heap.get? b=some o→b∉c.F→b∉Uh (ce::c.fr):=fun e h q=>(ay.mp (WX (c:=c) N▸q:_∈ce.locals::Uh c.fr)).elim (fun q=>Zj N.n e q.symm) h
 have k:=z.ht.keep
 refine⟨⟨fun b o e n h1 h2=>k b o e n (nv e h1) (nF e h2),fun b o e n h1=>z.ht.VE b o e n (nv e h1),z.ht.live,fun sB b o e=>z.stays b o ?_⟩,z.os.trans i.os.symm,z.gens.trans i.gens.symm,fun b o e h1 h2=> ?_⟩
 ·rw[Vy fun q=>Zj (i.νB b q) e rfl];exact i.stays b o e
 ·by_cases hb:b∈ν
  ·obtain⟨o',e',n⟩:=i.live b hb
   cases e.symm.trans e'
   exact k b o e n (nv e h1) (nF e h2)
  ·exact z.stays b o (by rw[Vy hb];exact e)
end
section
variable{c:Cf}{ν:List Addr}{env:Ev}{st st':St}{s s':ai}{X:Xp}{Q:D→St→Prop}
noncomputable abbrev Ad.Xy(ρ:Ad):Ad:={ρ with O7:=none}
noncomputable abbrev Ad.cur(ρ:Ad)(x D:Addr):Ad:={ρ with gE:=x,O7:=some D}
theorem NK{ρ:Ad}:∀a∈YW ρ.Xy,a∈YW ρ:=fun a h=>Xa ((Un h).imp id fun h=>h.imp id fun h=>h.imp id fun h=>no h)
theorem Og{ρ:Ad}{x D:Addr}:∀a∈YW (ρ.Xy.cur x D),a=D∨a∈YW ρ.Xy:=fun a h=>(Un h).elim (fun h=> .inr (Xa (.inl h))) fun h=>h.elim (fun h=> .inr (Xa (.inr (.inl h)))) fun h=>h.elim (fun h=> .inr (Xa (.inr (.inr (.inl h))))) fun h=> .inl (bh h).symm
theorem HQ{ρ:Ad}{x D:Addr}:∀a∈YW ρ.Xy,a∈YW (ρ.Xy.cur x D):=fun a h=>(Un h).elim (fun h=>Xa (.inl h)) fun h=>h.elim (fun h=>Xa (.inr (.inl h))) fun h=>h.elim (fun h=>Xa (.inr (.inr (.inl h)))) fun h=>no h
theorem kY{ns:List Int}{b e:Int}{x D:Addr}{arr:Array UInt8}{t tb te:Tok}{es:List dw}{n:Nat}(i:c.I ν env st s)(hc:c.ρ=c.ρ.Xy)(kk:KS s s')(nx:s.heap.get? x=none)(nD:s.heap.get? D=none)(dx:D≠x)(gx:s'.heap.get? x=some (Yy MA D))(gD:s'.heap.get? D=some (ZA es n))(r:ZT c.w Lr [.bytes arr t,.int b tb,.int e te] es)(q:Rt arr=ns)(z:arr.size≤YU)
  (ht:∀(j:Nat) t,env[j]?≠some (some (S.tag t))):(c.re (c.ρ.Xy.cur x D) (D::c.νf)).I (D::ν) env (st.c ns b e) s':=by
 have hv:∀b o,s.heap.get? b=some o→b∉ν→b∉D::ν:=fun b o e hb q=>(ay.mp q).elim (fun q=>Zj nD e q.symm) hb
 have x0:=(i.str.YC hv).keeps kk.keeps
 refine i.more kk.go nD ⟨_,gD,Vp⟩ (fun a h=>(Og a h).imp id fun h=>hc▸h) (fun a h=> .inl (HQ a (hc▸h))) (fun j t v h _=>absurd h (ht j t)) ⟨fun l e=> ?_,fun i e=> ?_,fun l e=> ?_,fun l a e q=> ?_,x0.apart⟩
 ·cases x0.digits l e with|mk a vs n q g r=>exact⟨a,vs,n,q,g,r⟩
 ·cases x0.one i e with|mk a t n q g=>exact⟨a,t,n,q,g⟩
 ·cases x0.sink l e with|mk b d arr es n q g1 n1 g2 n2 r g3 q2=>exact⟨b,d,arr,es,n,q,g1,n1,g2,n2,r,g3,q2⟩
 ·cases q
  exact⟨D,arr,t,tb,te,es,n,rfl,gx,fun q=>(ay.mp q).elim (fun q=>dx q.symm) fun q=>i.ZE nx q rfl,gD,r,‹_›,z⟩
end
section
variable{c:Cf}{ν νc:List Addr}{env:Ev}{st st':St}{s s':ai}{X:Xp}{Q:D→St→Prop}{R:aa→ai→Prop}{E:aa→ai→Prop}
structure RdT(sc:eg)(b:List Stmt)(q:RdP):Prop where
 b:RdR b q
 e1:NB ((tr 200).E sc Vz) q.es=rdA
 e2:WZ (tr 200) sc Vz [] 60 q.t.b=rdB
 e3:WZ (tr 200) sc Vz [] 60 q.s3=rdS
 h1:Oe "Malformed" "malformed" q.t.h1=true
 h2:Oe "LeftOut" "left out" q.t.h2=true
 gC:Xl sc Vz "Cursor"=true
 gM:Xl sc Vz "Malformed"=true
 gL:Xl sc Vz "LeftOut"=true
 cu:Xk true sc Vz "cursor" 4=true
 kf:sc.names.lookup ("fault":Str)=some .local
theorem kZ{P:b7}{o:Obj}(F:RdF P (fdOf (KF P) 957) o):∃q,RdT (fdOf (KF P) 957).scope (bodyOf (fdOf (KF P) 957)) q:=by
 obtain⟨q,h1,h2⟩:=bk.mp (bS P)
 have c:=F.c
 unfold bR at c
 rw[h1] at c
 have c1:=both c
 have c2:=both c1.2
 have c3:=both c2.2
 have c4:=both c3.2
 have c5:=both c4.2
 have k:=q8 h2
 have k2:=q8 k.2
 exact⟨q,wQ h1,k.1,k2.1,k2.2,(both c1.1).1,(both c1.1).2,c2.1,c3.1,c4.1,c5.1,beq_iff_eq.mp c5.2⟩
set_option backward.match.sparseCases true in
theorem lA{r:Nat}{sc:eg}{body:List Stmt}{q:RdP}{l:List D}{ns:List Int}{b e k:Int}(T:RdT sc body q)(ok:c.Ok)(hw:c.wr=true)(hr:c.r=r)(hsc:c.ce.scope=sc)(hnm:c.nm=Vz)(hc:c.ρ=c.ρ.Xy)(hLF:c.ce.locals∈c.F)(hν:∀a∈νc,a∈c.νf∧∃o,c.h0.get? a=some o∧NF o)
  (i:c.I c.νf (rdE l b e k none none) st s) (hi:YQ l=some ns) (hb:ns.all ZR=true) (hq:Rq (Cp QD r) ns b e k st Q)
  (hR:∀D x cv s' d st',c.h0.get? D=none→Q d st'.u→DR c.w νc s'.heap d cv→RdZ (c.re (c.ρ.Xy.cur x D) (D::c.νf)) st' s'→R cv s'):Zh c.M c.A (execs body c.ce) (fun f s'=>R (match f with| .ret v=>v|_=> .none) s') E s:=by
 subst hsc
 cases T with|mk tb e1 e2 e3 h1 h2 gC gM gL cu kf=>
 cases tb with|mk p1 p2 p3 p4 p5 eb hns=>
 subst eb
 rw[← hnm] at e1 e2 e3 gC gM gL cu
 have cu:Xk c.wr c.ce.scope c.nm "cursor" 4=true:=by rw[hw];exact cu
 have H:=AeH r
 have tE:=Fj H.toHyp 200
 have I:=YF (Ls c.w.params)
 have L1:YD (Cp QD r) c c.νf q.es rdA:=e1▸XS fun e=>(tE c c.νf e ok hr).1
 refine ZP (ZD (Z8 (up (Vx ok i gC I.g ?_))) (ZB rfl))
 refine XT (K:=KF c.w.params) I.mks (plain_any hns) (Yu (plain_any hns) (Zi ((L1 _ _ _ _ _ _ i (wR hi hb)).then (R:=fun cvs s2=>∃bb t tb te,cvs=[.bytes bb t,.int b tb,.int e te]∧Rt bb=ns∧bb.size≤YU∧c.I c.νf (rdE l b e k none none) st s2) fun svs cvs st1 s2 q1 r1 i2 g2=> ?_) (fun cvs s2 h=> ?_) fun _ _ x=>x.no.elim))
 ·refine aj fun hn=> ?_
  obtain⟨ea,eb⟩:=q1
  subst ea eb
  cases r1 with|cons ra r1=>cases r1 with|cons rb r1=>cases r1 with|cons rc r1=>cases r1 with|nil=>
  cases (DR.inv ra:tX ns _) with|mk bb t ev eq z=>
  obtain⟨tb,eb⟩:=(DR.inv rb:∃t,_=A0c b t)
  obtain⟨te,ee⟩:=(DR.inv rc:∃t,_=A0c e t)
  subst ev eb ee
  exact hn (⟨bb,t,tb,te,rfl,eq,z,i2⟩)
 obtain⟨bb,t,tb,te,ev,eu,z,i2⟩:=h
 subst ev
 refine⟨i2.K,XD (bN (vs:=[.bytes bb t,.int b tb,.int e te]) (bq (l8 (br _ _) (by decide)) ok.depth) i2.K (i2.lim.keeps i2.stays) rfl (fun v m=> ?_) fun cv s3 y=> ?_)⟩
 ·exact(ay.mp m).elim (fun q=>q▸rfl) fun m=>(ay.mp m).elim (fun q=>q▸rfl) fun m=>(iy.mp m)▸rfl
 cases y with|mk x D es n vs ec nx nD dx kk gx gD pv rr=>
 have ev:=Fy (WV I.ndf) rfl pv
 subst ec ev
 have i3:=kY (ns:=ns) i2 hc kk nx nD dx gx gD rr eu z fun j t h=>by
  match j with
  |0|1|2|3|4|5=>cases h
  |j+6=>cases h
 have oD:c.h0.get? D=none:=(i2.fresh nD).h0
 have G:∀{y},Xl c.ce.scope c.nm y=true→GI (c.re (c.ρ.Xy.cur x D) (D::c.νf)) y:=fun h=>Yd h
 have ok3:(c.re (c.ρ.Xy.cur x D) (D::c.νf)).Ok:=ok.re
 refine up (Xo (c:=c.re (c.ρ.Xy.cur x D) (D::c.νf)) (sv:= .tag .cur) (x:="cursor") (j:=4) ok3 i3 ⟨⟨D,rfl⟩,rfl⟩ (Ys ok3 cu) Sg fun s4 y4=> ?_)
 exact bV (c:=c.re (c.ρ.Xy.cur x D) (D::c.νf)) (νc:=νc) ok3 y4.i (fun a h=>⟨.tail _ (hν a h).1,(hν a h).2⟩) (e2▸Qu H tE _ ok3 hw hr rfl rfl _) (e3▸Qu H tE _ ok3 hw hr rfl rfl _) h1 h2 (G gM) (G gL) kf hLF (bW hq) fun cv s' d st' q r z=>hR D x cv s' d st' oD q r z
end
section
variable{c:Cf}{ν:List Addr}{env:Ev}{st:St}{s:ai}{X:Xp}
theorem AbU(P:b7):Sf (KF P) 957=true:=PW (both (bU P)).1
theorem wV{st:St}(h:st.cur=none):st.u=st:=by cases st;cases h;rfl
theorem lB{r:Nat}{vs:List S}{cvs:List aa}{Q:S→St→Prop}(ok:c.Ok)(hr:c.r=r+1)(i:c.I ν env st s)(rs:SS c ν s.heap vs cvs)(hq:Ba (Cp QD r) vs st fun d st=>Q (.d d) st):G9 c ν env (PySem.call (.ref 957) cvs) Q X s:=by
 cases Dm hq with|mk l b e k ns ev hc hi hb q=>
 subst ev
 have F:=bT c.w.params
 obtain⟨p,T⟩:=kZ F
 have F2:=F.f
 have F3:=F.s
 clear F
 generalize objOf (KF c.w.params) 957=o at F2
 generalize fdOf (KF c.w.params) 957=fd at T F2 F3
 cases rs with|cons r1 rs=>cases rs with|cons r2 rs=>cases rs with|cons r3 rs=>cases rs with|cons r4 rs=>cases rs with|nil=>
 have hs:V1 c.w ν c.ρ.Xy st s.heap:=(wV hc)▸i.str.ad (ρ':=c.ρ.Xy) rfl rfl rfl rfl fun _ h=>h
 refine Ul (c:=c.onB (shrink s.heap ν)) (ρ':=c.ρ.Xy) (nm:=Vz) (vs:=[.d (.list l),.d (.int b),.d (.int e),.d (.int k)]) (k:=2) (r:=r) (P:=Sa c ν env Q s) (E:=c.RX X) F2 F3 (i.wL ok) hr NK hs (fun t v m=> ?_) (.cons r1 (.cons r2 (.cons r3 (.cons r4 .nil)))) rfl rfl fun ce h₁ tk lm cm N okd i0=> ?_
 ·exact nomatch (ay.mp m).resolve_right fun m=>nomatch (ay.mp m).resolve_right fun m=>nomatch (ay.mp m).resolve_right fun m=>nomatch iy.mp m
 refine lA (c:=(c.onB (shrink s.heap ν)).deep c.ρ.Xy ν ce Vz r s.heap) (νc:=ν) T okd rfl rfl N.iY rfl rfl (by show ce.locals∈Uh (ce::c.fr);rw[WX (c:=c) N];exact .head _) (fun a h=>⟨e7 _ (.tail _ h),i.live a h⟩) i0 hi hb q fun D x cv s' d st' oD q0 q1 z=> ?_
 have hν:∀a∈ν,a∈D::(Rz ce++ce.locals::ν):=fun a h=> .tail _ (e7 _ (.tail _ h))
 have g:=Dq (ρ1:=c.ρ.Xy.cur x D) i N oD (fun a h=>(Og a h).imp id (NK a)) hν ⟨z.ht,z.stays,z.str,z.os,z.gens⟩
 exact⟨.d d,st'.u,q0,q1,i.go g (z.str.ad rfl rfl rfl rfl hν),g⟩
theorem wW(r:Nat):XA (Tf r) (r+1):=fun c ν env st s f vs cvs Q X ok hr i rs hq=>by
 have hq:=Bx.un hq
 cases h:qp f 957 with
 |true=>
  rw[h] at hq
  cases mu h
  exact⟨AbU _,lB ok hr i rs hq⟩
 |false=>
  rw[h] at hq
  exact calls (r+1) c ν env st s f vs cvs Q X ok hr i rs ⟨hq⟩
theorem wU(r:Nat):ET (Tf r) (r+1):=
 {calls:=wW r,inst:=fun c ν ok _ x p pos es k a h1 h2 h3 h4=>Fx ok h1 h2 h3 h4,sub:=fun c ν ok _ v s pos k a h1 h2 h3=>Fw rfl ok h1 h2 h3,inE:=fun c ν ok _ l r pos k a h1 h2=>aH rfl ok h1 h2,raise:=fun c ok _ x p pos cp es k a h1 h2 h3 h4=>Te ok h1 h2 h3 h4}
end
noncomputable def wX:NM:=[("digits",0)]
noncomputable def lC:List Str:=["digits"]
noncomputable def Rj{α:Type}(p:α→Bool)(l:List α):Bool:=l.length==1&&l.all p
theorem Xs{α:Type}{p:α→Bool}{l:List α}(h:Rj p l=true):∃a,l=[a]∧p a=true:=by
 obtain⟨a,e⟩:=m8.mp (beq_iff_eq.mp (both h).1)
 exact⟨a,e,az.mp (both h).2 a (e▸ .head _)⟩
structure If3 where
 t:Expr
 x:Expr
 o:Expr
noncomputable def AbW:Expr→Option If3
 | .IfExp t x o _=>some ⟨t,x,o⟩
 |_=>none
theorem lD{e:Expr}{q:If3}(h:AbW e=some q):∃p,e= .IfExp q.t q.x q.o p:=by cases e<;>first|exact no h|(cases h;exact⟨_,rfl⟩)
noncomputable def isNe:qw→Bool
 | .NotEq=>true
 |_=>false
noncomputable def isNil(e:Expr):Bool:=(PM e).any ze
noncomputable def is0(e:Expr):Bool:=(XR e).any (isInt 0)
noncomputable def nxT(e:Expr):Bool:=(kO e).any fun c=>isName "digits" c.l&&(Rj isNe c.ops&&Rj isNil c.rs)
noncomputable def nxP(e:Expr):Bool:=(Wz e).any fun q=>(Sq q.f).any (fun a=>isName "digits" a.v&&(a.m==("pop":Str)&&a.p.endLine==q.p.line))&&(Rj is0 q.es&&q.UA.isEmpty)
noncomputable def nxE(e:Expr):Bool:=(AbW e).any fun q=>nxT q.t&&(nxP q.x&&is0 q.o)
noncomputable def nxS(s:Stmt):Bool:=(aQ s).any fun e=>(PM e).any (Rj nxE)
inductive NxR(b:List Stmt):Prop
 |mk (p1 p2 p3 p4 p5 ap cp p6 p7 p8 p9:Pos) (k2 k3:Nat) (l:ap.endLine=cp.line)
  (e:b=[.Return (some (.List [.IfExp (.Compare (.Name "digits" p1) [.NotEq] [.List [] p2] p3) (.Call (.Attribute (.Name "digits" p4) "pop" ap) [.Constant (.int 0) k2 p5] [] cp) (.Constant (.int 0) k3 p6) p7] p8)) p9])
theorem bX{e:Expr}(h:is0 e=true):∃k p,e= .Constant (.int 0) k p:=by
 obtain⟨c,h1,h2⟩:=Zg h
 obtain⟨k,p,h1⟩:=X9 h1
 cases c with
 |int i=>cases (beq_iff_eq.mp h2:i=0);exact⟨k,p,h1⟩
 |_=>exact ff h2
theorem AbV{b:List Stmt}(h:Rj nxS b=true):NxR b:=by
 refine aj fun hn=> ?_
 obtain⟨s,e,h⟩:=Xs h
 obtain⟨v,h1,h⟩:=Zg h
 obtain⟨es,h2,h⟩:=Zg h
 obtain⟨x,e2,h⟩:=Xs h
 obtain⟨q,h3,h⟩:=Zg h
 obtain⟨c,h4,h5⟩:=Zg (both h).1
 obtain⟨v2,h6,h7⟩:=Zg (both (both h).2).1
 obtain⟨a,h8,h9⟩:=Zg (both h7).1
 obtain⟨p9,h1⟩:=Lj h1
 obtain⟨p8,h2⟩:=WY h2
 obtain⟨p7,h3⟩:=lD h3
 obtain⟨p3,h4⟩:=Lv h4
 have h6:=Y0 h6
 have h8:=Wy h8
 obtain⟨p1,g1⟩:=Zt (both h5).1
 obtain⟨o,g2,g3⟩:=Xs (both (both h5).2).1
 obtain⟨r,g4,g5⟩:=Xs (both (both h5).2).2
 obtain⟨rs,g6,g7⟩:=Zg g5
 obtain⟨p2,g6⟩:=WY g6
 obtain⟨p4,g8⟩:=Zt (both h9).1
 obtain⟨y,g9,xR⟩:=Xs (both (both h7).2).1
 obtain⟨k2,p5,xR⟩:=bX xR
 obtain⟨k3,p6,g11⟩:=bX (both (both h).2).2
 have eo:o= .NotEq:=by cases o<;>first|rfl|exact ff g3
 rw[g8,(beq_iff_eq.mp (both (both h9).2).1:a.m="pop")] at h8
 rw[b6.mp (both (both h7).2).2,g9,xR,h8] at h6
 rw[b6.mp g7] at g6
 rw[g1,g2,eo,g4,g6] at h4
 rw[h4,h6,g11] at h3
 rw[e2,h3] at h2
 rw[h2] at h1
 exact hn (⟨p1,p2,p3,p4,p5,_,_,p6,p7,p8,p9,k2,k3,beq_iff_eq.mp (both (both h9).2).2,e▸congrArg (fun s=>[s]) h1⟩)
theorem wY(P:b7):(Rj nxS (bodyOf (fdOf (KF P) 789))&&(V5 (KF P) 789&&(RK (fdOf (KF P) 789).scope wX lC&&(fdOf (KF P) 789).scope.names.lookup ("digits":Str)==some .local)))=true:=by kernel_rfl
theorem lG(P:b7)(S:jw)(a:aa):peek (KF P) S (m6 (fdOf (KF P) 789) ⟨[a],[]⟩)=some (lC.zip [a]):=by kernel_rfl
structure NxF(P:b7)(fd:jh)(o:Obj):Prop where
 f:Yt P 789 fd o (bodyOf fd) lC
 s:RK fd.scope wX lC=true
 b:NxR (bodyOf fd)
 k:fd.scope.names.lookup ("digits":Str)=some .local
theorem bY(P:b7):NxF P (fdOf (KF P) 789) (objOf (KF P) 789):=
 have h:=both (wY P)
 have h2:=both h.2
 ⟨YX h2.1 fun S vals hl=>by
  obtain⟨a,r,e,h⟩:=Yo hl
  cases RL h
  subst e
  exact lG P S a,(both h2.2).1,AbV h.1,beq_iff_eq.mp (both h2.2).2⟩
theorem lF{prog:k9}{w:b3}{A:bz}{E:aa→ai→Prop}{s:ai}{l:Addr}{xs:Array aa}{n:Nat}{u:Tok}{y:aa}{Q:aa→ai→Prop}(hl:s.heap.get? l=some (Zo xs n))(hy:xs[0]?=some y)(hz:xs.size≤YU)
  (h:∀h' k,gu l s.heap h'→h'.get? l=some (Zo (xs.eraseIdxIfInBounds 0) k)→Q y {s with heap:=h'}):wpAny (model prog w) A (call (.builtin "list.pop") [.ref l,.int 0 u]) Q E s:=by
 have hpos:0<xs.size:=(qz.mp hy).1
 refine call_meets PySem.F.slot_list_pop ⟨_,hl,rfl⟩ PySem.F.entry_list_pop (PySem.F.args_list_pop_2 _ _) (MeetsSeq.list_pop_at l xs n 0 u 0 y (by decide) (by unfold seqIndex?;simp [hpos]) hy hz) ⟨hl,?_⟩
 exact h _ _ (m5 ..) (IsL.update (f:=fun x=>x.eraseIdxIfInBounds 0) hl)
theorem JO{xs:Array aa}:(xs.eraseIdxIfInBounds 0).toList=xs.toList.tail:=by
 unfold yl
 split
 ·rw[zy,List.eraseIdx_zero]
 ·have:xs.size=0:=by omega
  have e:xs= #[]:=jy this
  subst e;rfl
inductive nQ(s:ai)(l:List Int)(a:Addr)(b:Addr)(s':ai):Prop
 |mk (t:Tok) (n:Nat) (vs:Array aa) (nb:s.heap.get? b=none) (g:s'.heap.get? b=some (Zo #[.int (l.headD 0) t] 0)) (ga:s'.heap.get? a=some (Zo vs n)) (r:qf vs.toList l.tail) (k:∀x o,x≠a→s.heap.get? x=some o→s'.heap.get? x=some o) (os:s'.os=s.os) (gens:s'.gens=s.gens)
section
variable{c:Cf}{ν:List Addr}{env:Ev}{st:St}{s:ai}
set_option backward.match.sparseCases true in
theorem Dr{r:Nat}{l:List Int}{a:Addr}{R:aa→ai→Prop}{E:aa→ai→Prop}(ok:c.Ok)(hr:c.r=r+1)(i:c.I ν env st s)(hd:st.digits=some l)(ha:c.ρ.digits=some a)(hln:l.length≤YU)
  (hR:∀b s',nQ s l a b s'→R (.ref b) s'):Zh c.M c.A (PySem.call (.ref 789) [.ref a]) R E s:=by
 have F:=bY c.w.params
 refine aj fun hn=> ?_
 cases F with|mk F S B K=>
 generalize objOf (KF c.w.params) 789=o at F
 generalize fdOf (KF c.w.params) 789=fd at F S B K
 refine hn (Ul (ρ':=c.ρ) (nm:=wX) (k:=0) (vs:=[.tag .digits]) F S (i.pre ok) hr (fun _ h=>h) i.str (fun _ _ _ h=>h) (.cons ⟨a,ha,rfl⟩ .nil) rfl rfl fun ce h₁ tk lm0 cm0 N okc i1=> ?_)
 cases i1.str.digits l hd with|mk a' vs n h1 h2 h3=>
 cases ha.symm.trans h1
 cases B with|mk p1 p2 p3 p4 p5 ap cp p6 p7 p8 p9 k2 k3 hp eb=>
 rw[eb]
 have hk:ce.kindOf "digits"=some .local:=(N.iY▸K:ce.scope.names.lookup ("digits":Str)=_)
 refine aj fun hn=> ?_
 cases i1.VE with|mk lm cm f=>
 have v1:lm "digits"=some (.ref a):=by
  cases f.val "digits" 0 (.tag .digits) rfl rfl with|mk cv v1 v2=>
  obtain⟨a',e1,e2⟩:=v2
  cases ha.symm.trans e1
  subst e2
  unfold Sx at v1
  rw[hk] at v1
  exact v1
 have kN:=N.kk
 have ld:∀{B':bz} {s2:ai} {p:Pos} {Q:aa→ai→Prop} {E':aa→ai→Prop},(∀b o,h₁.get? b=some o→s2.heap.get? b=some o)→Q (.ref a) s2→wpAny c.M B' (eval (.Name "digits" p) ce) Q E' s2:=fun k q=>uv (j7 okc.kind hk (f.ns.elim fun o w=>w.elim fun es w=>w.elim fun ep w=>⟨o,es,ep,k _ _ w.1,w.2⟩) v1 q) (by decide)
 have hsz:vs.size=l.length:=by rw[← ez];exact h3.length
 refine hn (ZP (XN (ZM ?_)))
 rw[ZH rfl,jq,qe]
 refine ZG (S4 (ZV (up (ld (fun _ _ e=>e) ?_)) rfl))
 refine ZM (Z6 ⟨ie _,?_⟩)
 have kp:∀b o,h₁.get? b=some o→(h₁.push (Zo #[] 0)).get? b=some o:=fun b o e=>au _ e
 refine up (Nq (c:=c) (s:={s with heap:=h₁.push (Zo #[] 0),toks:=tk}) (kp _ _ h2) (b9 _ rfl) rfl okc.pr.u ?_)
 refine up (wpAny_truthy_bool ?_)
 have fin:∀{hp:Heap} {tk:Nat} {t:Tok} {vs':Array aa} {n':Nat},(∀x o,x≠a→h₁.get? x=some o→hp.get? x=some o)→hp.get? a=some (Zo vs' n')→qf vs'.toList l.tail→R (.ref hp.objs.size) {s with heap:=hp.push (Zo #[.int (l.headD 0) t] 0),toks:=tk}:=fun {hp tk t vs' n'} k e1 e2=>
  have ne:hp.objs.size≠a:=Zj (Zs hp) e1
  hR _ _ ⟨t,n',vs',(match q:s.heap.get? hp.objs.size with
   |none=>rfl
   |some o=>no ((Zs hp).symm.trans (k _ _ ne (kN _ _ q)))),b9 _ rfl,au _ e1,e2,fun x o hx e=>au _ (k x o hx (kN x o e)),rfl,rfl⟩
 cases l with
 |nil=>
  have hz:vs.size=0:=hsz
  rw[show decide (vs.size≠0)=false from decide_eq_false fun q=>q hz,if_neg fh]
  exact up (wpAny_Constant_int (Z6 ⟨Nat.succ_le_of_lt (by rw[xy];decide),fin (fun x o _ e=>kp x o e) (kp _ _ h2) h3⟩))
 |cons v l=>
  have hz:vs.size≠0:=fun q=>nomatch (hsz.symm.trans q:l.length+1=0)
  rw[show decide (vs.size≠0)=true from decide_eq_true hz,if_pos rfl]
  generalize hL:vs.toList=L at h3
  cases h3 with|@cons _ t0 us _ h3=>
  have y0:vs[0]?=some (.int v t0):=by rw[← fq,hL];rfl
  have h2':=kp _ _ h2
  refine up (Tc rfl (by decide:1<30) rfl hp (ld kp fun pl=> ?_))
  refine getMethod_builtin ⟨_,h2',rfl⟩ PySem.F.plainAttrs_list PySem.F.slot_list_pop PySem.F.type_list_pop (fun a e=>by cases e;exact⟨_,h2',rfl⟩) ?_
  rw[ZH rfl,jq,qe]
  refine PySem.Calls.callWith_builtin rfl (PySem.Calls.evalArgs_plain (PySem.Calls.spliced_cons (wpAny_Constant_int (PySem.Calls.spliced_nil ?_))))
  refine lF (xs:=vs) h2' y0 (by rw[hsz];exact hln) fun h' k hs e=> ?_
  refine Z6 ⟨Nat.succ_le_of_lt (by rw[xy];decide),fin (fun x o hx ex=>(hs.2 x hx).trans (kp x o ex)) e ?_⟩
  rw[JO,hL]
  exact h3
end
section
open Sem (wp)
inductive LL(c:Cf)(env:Ev)(st:St)(s:ai):Prop
 |mk (ρ:Ad) (νf ν:List Addr) (i:(c.re ρ νf).I ν env st s) (v:∀a∈YW ρ,RG c.h0 a)
theorem bZ{M:o8}{Γ:Ctx}{E:aa→Pos→ai→Prop}{env:Env}{b:List Stmt}{Q:Flow→Pos→ai→Prop}:∀{a:List Stmt} {p:Pos} {s:ai},wp M Γ (execs a env) (fun f p s'=>match f with| .next=>wp M Γ (execs b env) Q E p s'|f=>Q f p s') E p s→wp M Γ (execs (a++b) env) Q E p s
 |[],p,s,h=>h
 |x::a,p,s,h=>by
  rw[execs_cons,tu] at h
  rw[List.cons_append,execs_cons,tu]
  refine ni M Γ _ (fun f p' s' h'=> ?_) (fun _ _ _ h'=>h') p s h
  cases f with
  |next=>exact bZ h'
  |_=>exact h'
theorem Lx{M:o8}{A:bz}{E:aa→ai→Prop}{env:Env}{a b:List Stmt}{Q:Flow→ai→Prop}{s:ai}(h:Zh M A (execs a env) (fun f s'=>f= .next∧Zh M A (execs b env) Q E s') E s):Zh M A (execs (a++b) env) Q E s:=fun Γ p hΓ hc=>
 bZ (ni M Γ _ (fun f p' s' h'=>by cases h'.1;exact h'.2 Γ p' hΓ hc) (fun _ _ _ h'=>h') p s (h Γ p hΓ hc))
def XW(c:Cf)(r:Nat)(t:List Stmt)(l:List LS):Prop:=∀env st (N:Ev→St→Prop) s E,LL c env st s→KU r l env st N→Zh c.M c.A (execs t c.ce) (fun f s'=>f= .next∧∃env st,N env st∧LL c env st s') E s
def JQ(c:Cf)(r:Nat)(t:Stmt)(l:LS):Prop:=∀env st (N:Ev→St→Prop) s E,LL c env st s→wpL r l env st N→Zh c.M c.A (exec t c.ce) (fun f s'=>f= .next∧∃env st,N env st∧LL c env st s') E s
section
variable{C:Cx}{c:Cf}{ν:List Addr}{env:Ev}{st st':St}{s s':ai}{r:Nat}{E:aa→ai→Prop}
theorem XW.nil:XW c r [] []:=fun env st N s E x h=>ZY ⟨rfl,env,st,h,x⟩
theorem XW.app{t t':List Stmt}{a:LS}{l:List LS}(h:∀env st (N:Ev→St→Prop) s E,LL c env st s→wpL r a env st N→Zh c.M c.A (execs t c.ce) (fun f s'=>f= .next∧∃env st,N env st∧LL c env st s') E s)(k:XW c r t' l):XW c r (t++t') (a::l):=fun env st N s E x q=>
 Lx (Zi (h env st _ s E x q) (fun f s' z=>⟨z.1,z.2.elim fun env z=>z.elim fun st z=>k env st N s' E z.2 z.1⟩) fun _ _ e=>e)
theorem XW.cons{t:Stmt}{t':List Stmt}{a:LS}{l:List LS}(h:JQ c r t a)(k:XW c r t' l):XW c r (t::t') (a::l):=fun env st N s E x q=>
 ZP (Zi (h env st _ s E x q) (fun f s' z=>by
  cases z.1
  exact z.2.elim fun env z=>z.elim fun st z=>k env st N s' E z.2 z.1) fun _ _ e=>e)
theorem XW.Ez{t t':List Stmt}{p:PS}{l:List LS}(h:∀ρ νf,Wv (Tf r) (c.re ρ νf) t p)(k:XW c r t' l):XW c r (t++t') (.Ez p::l):=XW.app (fun env st N s E x q=>by
 cases x with|mk ρ νf ν i v=>
 refine Zi (h ρ νf _ _ _ _ _ _ _ i q) (fun fl s' z=> ?_) fun ev s' x=>x.no.elim
 cases fl with
 |next=>cases z with|mk ν' env' st' q i'=>exact⟨rfl,env',st',q,ρ,νf,ν',i',v⟩
 |ret v=>cases z with|mk _ _ _ q _ _=>exact False.elim q
 |_=>exact False.elim z) k
theorem Cf.I.clear{j:Nat}(i:c.I ν env st s):c.I ν (env.set j none) st s:=
 ⟨i.base,i.lim,i.seer,i.stays,i.νB,i.frames,i.str,match i.VE with
  |⟨lm,cm,f⟩=>
   have at_:∀{k:Nat} {sv:S},(env.set j none)[k]?=some (some sv)→env[k]?=some (some sv):=fun e=>(Pz e).elim (fun q=>no q.2) fun q=>q.2
   ⟨lm,cm,f.ns,f.cell,f.SQ,f.lν,f.l0,fun x k sv e1 e2=>f.val x k sv e1 (at_ e2),fun x y k k' sv sv' cv h1 h2 h3 h4=>f.KW x y k k' sv sv' cv h1 h2 (at_ h3) (at_ h4)⟩,
  i.fν,i.SP,i.JR,i.JS,i.live,i.gens,i.Ws,i.X6,i.sin,i.os,i.al⟩
theorem Ds{t:Tag}:Rr t (some (.tag t))=true:=by cases t<;>rfl
theorem HS{t:Tag}{j:Nat}(h:Pg t env=true):env[j]?≠some (some (.tag t)):=fun e=>by
 have:=az.mp h _ (ig e)
 rw[Ds] at this
 exact ff this
theorem JP{t:Tag}{o:Option S}(h:Rr t o=true):o=some (.tag t):=by
 cases o with
 |none=>exact ff h
 |some v=>cases v with
  |tag u=>cases t<;>cases u<;>first|rfl|exact ff h
  |_=>exact ff h
end
end
structure LN(c:Cf)(r:Nat):Prop where
 r:c.r=r+1
 wr:c.wr=true
 nm:c.nm.lookup ("digits":Str)=some 1
 kd:c.ce.kindOf "digits"=some .local
 gn:GI c "_law_next"
 gb:GI c "_law_broken"
 gs:Xl c.ce.scope c.nm "Sink"=true
 gy:GI c "bytes"
 one:Xk true c.ce.scope c.nm "one" 2=true
 sink:Xk true c.ce.scope c.nm "sink" 7=true
 wt:c.nm.lookup ("written":Str)=some 8
theorem LN.re{c:Cf}{r:Nat}{ρ':Ad}{νf':List Addr}(n:LN c r):LN (c.re ρ' νf') r:=⟨n.r,n.wr,n.nm,n.kd,⟨n.gn.k,n.gn.d,n.gn.n⟩,⟨n.gb.k,n.gb.d,n.gb.n⟩,n.gs,⟨n.gy.k,n.gy.d,n.gy.n⟩,n.one,n.sink,n.wt⟩
theorem nR(P:b7):(Sf (KF P) 789&&Sf (KF P) 971)=true:=by kernel_rfl
theorem nS:((GT.lookup ("_law_next":Str)).bind vC==some 789&&(GT.lookup ("_law_broken":Str)).bind vC==some 971)=true:=by kernel_rfl
theorem nT{x:Str}{f:Nat}(h:((GT.lookup x).bind vC==some f)=true):(x,D.fn f)∈GT:=by
 obtain⟨d,h1,h2⟩:=av.mp (beq_iff_eq.mp h)
 cases PO h2
 exact Zq h1
noncomputable abbrev Ad.L7(ρ:Ad)(b:Addr):Ad:={ρ with one:=some b}
theorem FF{ρ:Ad}{b:Addr}:∀a∈YW (ρ.L7 b),a=b∨a∈YW ρ:=fun a h=>(Un h).elim (fun h=> .inr (Xa (.inl h))) fun h=>h.elim (fun h=> .inl (bh h).symm) fun h=> .inr (Xa (.inr (.inr h)))
section
variable{c:Cf}{ν:List Addr}{env:Ev}{st st':St}{s s':ai}{r:Nat}{E:aa→ai→Prop}
theorem wZ{l:List Int}{a b:Addr}(i:c.I ν env st s)(v:∀a∈YW c.ρ,RG c.h0 a)(ha:c.ρ.digits=some a)(hn:Pg .one env=true)(hd:st.digits=some l)(y:nQ s l a b s'):(c.re (c.ρ.L7 b) (b::c.νf)).I (b::ν) env (st.nx l) s':=by
 cases y with|mk t n vs nb g ga rr k os gens=>
 have va:a∈YW c.ρ:=US ha
 cases i.str.digits l hd with|mk a' vs0 n0 d1 d2 d3=>
 cases ha.symm.trans d1
 have go:c.Go s s':=⟨⟨fun x o e nf h1 h2=>k x o (fun q=>h1 (q▸va)) e,fun x o e nf h1=>⟨o.slots,k x o (fun q=>h1 (q▸va)) e⟩,fun x o e nf=>by
   by_cases q:x=a
   ·subst q;exact⟨_,ga,Ym⟩
   ·exact⟨o,k x o q e,nf⟩,fun w x o e=>k x o (fun q=>Zj (i.νB a (i.volν a va)) e q.symm) (w x o e)⟩,os,gens,fun x o e h1 h2=>k x o (fun q=>h1 (q▸va)) e⟩
 have hv:∀x o,s.heap.get? x=some o→x∉ν→x∉b::ν:=fun x o e hb q=>(ay.mp q).elim (fun q=>Zj nb e q.symm) hb
 have x0:=i.str.YC hv
 have ne:∀{x:Addr} {o:Obj},s.heap.get? x=some o→o≠Zo vs0 n0→x≠a:=fun e q w=>q (bh (e.symm.trans (w▸d2)))
 have ki:∀x C d,s.heap.get? x=some (Yy C d)→s'.heap.get? x=some (Yy C d):=fun x C d e=>k x _ (ne e (Sm rfl rfl)) e
 have kd:∀x es m,s.heap.get? x=some (ZA es m)→s'.heap.get? x=some (ZA es m):=fun x es m e=>k x _ (ne e (VY rfl rfl (by decide))) e
 have kb:∀x arr,s.heap.get? x=some (Wc arr)→s'.heap.get? x=some (Wc arr):=fun x arr e=>k x _ (ne e (VY rfl rfl (by decide))) e
 refine i.more go nb ⟨_,g,Ym⟩ FF (fun x h=> .inr (v x h)) (fun j t cv hj ht=> ?_) ⟨fun l' e=> ?_,fun j e=> ?_,fun l' e=> ?_,fun l' a' e' q=> ?_,fun b1 b2 q1 q2=> ?_⟩
 ·cases t with
  |one=>exact absurd hj (HS hn)
  |_=>exact ht
 ·cases e;exact⟨a,vs,n,ha,ga,rr⟩
 ·cases e;exact⟨b,t,0,rfl,g⟩
 ·cases (x0.sink l' e).to ki (fun x es m _=>kd x es m) kb with|mk b d arr es n q g1 n1 g2 n2 r g3 q2=>exact⟨b,d,arr,es,n,q,g1,n1,g2,n2,r,g3,q2⟩
 ·cases (x0.cur l' a' e' q).to ki kd with|mk d arr t ta te es n e1 g1 n1 g2 r q z=>exact⟨d,arr,t,ta,te,es,n,e1,g1,n1,g2,r,q,z⟩
 ·cases q2
  cases ha.symm.trans (q1:c.ρ.digits=some b1)
  exact fun q=>Zj nb d2 q.symm
theorem nU{p2 p3 cp:Pos}{R:aa→ai→Prop}{K:Ev→St→Prop}(ok:c.Ok)(n:LN c r)(x:LL c env st s)(h:KR env st K)
  (k:∀ρ νf ν st' b s',K (env.set 2 none) st'→(c.re ρ νf).I ν (env.set 2 none) st' s'→(∀a∈YW ρ,RG c.h0 a)→ρ.one=some b→R (.ref b) s'):
  Zh c.M c.A (eval (.Call (.Name "_law_next" p2) [.Name "digits" p3] [] cp) c.ce) R E s:=by
 refine aj fun hn=> ?_
 cases x with|mk ρ νf ν i v=>
 refine hn (Zw h fun l hl h=> ?_)
 have hz:=(Zk h).1
 refine Zw (Zk h).2 fun o ho h=> ?_
 have ht:=both (Zk h).1
 cases JP ht.1
 have h:=(Zk h).2
 have okr:(c.re ρ νf).Ok:=ok.re
 have n:LN (c.re ρ νf) r:=n.re
 refine aj fun hn=> ?_
 cases i.VE with|mk lm cm f=>
 cases f.val "digits" 1 (.tag .digits) n.nm ho with|mk cv v1 v2=>
 obtain⟨a,ha,e⟩:=v2
 subst e
 have v1:lm "digits"=some (.ref a):=by unfold Sx at v1;rw[n.kd] at v1;exact v1
 refine hn (Z8 (up (We (c:=c.re ρ νf) (d:= .fn 789) okr i n.gn.k n.gn.d (nT (both nS).1) fun cv rq=> ?_)))
 cases (DR.inv rq:cv=_)
 refine W6 (c:=c.re ρ νf) (both (nR c.w.params)).1 rfl ?_
 rw[ZH rfl,jq,qe]
 refine ZG (up (uv (j7 okr.kind n.kd f.ns v1 (Z6 ⟨i.K,?_⟩)) (by decide)))
 refine Dr (c:=c.re ρ νf) (r:=r) (a:=a) okr n.r i hl ha (cw hz) fun b s1 y=> ?_
 exact k (ρ.L7 b) (b::νf) (b::ν) _ b s1 h (wZ (c:=c.re ρ νf) i.clear v ha ht.2 hl y) (fun x m=>(FF x m).elim (fun q=>by subst q;cases y with|mk t n vs nb=>exact(i.fresh nb).h0) (v x)) rfl
end
noncomputable def Ly(e:Expr):Bool:=(Wz e).any fun q=>isName "_law_next" q.f&&(Rj (isName "digits") q.es&&q.UA.isEmpty)
noncomputable def Oj(s:Stmt):Bool:=(HC s).any fun q=>isName "one" q.t&&Ly q.v
noncomputable def Oh(sc:eg)(nm:NM)(s:Stmt):Bool:=(HC s).any fun q=>U7 true sc nm q.t [10,15,18,19,20]&&(isTup q.t&&(Wz q.v).any fun v=>isName "_law_broken" v.f&&(Rj Ly v.es&&v.UA.isEmpty))
noncomputable def HT(s:Stmt):Bool:=(HC s).any fun q=>isName "sink" q.t&&(Wz q.v).any fun v=>isName "Sink" v.f&&(v.es.isEmpty&&v.UA.isEmpty)
noncomputable def xB(p:Expr→Bool)(e:Expr):Bool:=(Wz e).any fun q=>isName "bytes" q.f&&(Rj p q.es&&q.UA.isEmpty)
noncomputable def ifT:Stmt→Option Expr
 | .If t _ o _=>cond o.isEmpty (some t) none
 |_=>none
noncomputable def isSame(s:Stmt):Bool:=(ifT s).any fun t=>(kO t).any fun c=>xB (Lw "sink" "octets") c.l&&(Rj isNe c.ops&&Rj (xB (isName "written")) c.rs)
theorem xA{s:Stmt}{t:Expr}(h:ifT s=some t):∃b p,s= .If t b [] p:=by
 cases s with
 |If t' b o p=>
  have k:=Zy h
  cases b6.mp k.1
  cases k.2
  exact⟨b,p,rfl⟩
 |_=>exact no h
theorem Oi{e:Expr}(h:Ly e=true):∃p2 p3 cp,e= .Call (.Name "_law_next" p2) [.Name "digits" p3] [] cp:=by
 refine aj fun hn=> ?_
 obtain⟨q,h1,h2⟩:=Zg h
 obtain⟨p2,e1⟩:=Zt (both h2).1
 obtain⟨a,e2,h3⟩:=Xs (both (both h2).2).1
 obtain⟨p3,e3⟩:=Zt h3
 have h1:=Y0 h1
 rw[e1,e2,e3,b6.mp (both (both h2).2).2] at h1
 exact hn (⟨p2,p3,_,h1⟩)
theorem cA{e:Expr}(h:isTup e=true):∃ts k p,e= .Tuple ts k p:=by cases e<;>first|exact⟨_,_,_,rfl⟩|exact ff h
theorem FH{p:Expr→Bool}{e:Expr}(h:xB p e=true):∃p2 a cp,e= .Call (.Name "bytes" p2) [a] [] cp∧p a=true:=by
 refine aj fun hn=> ?_
 obtain⟨q,h1,h2⟩:=Zg h
 obtain⟨p2,e1⟩:=Zt (both h2).1
 obtain⟨a,e2,h3⟩:=Xs (both (both h2).2).1
 have h1:=Y0 h1
 rw[e1,e2,b6.mp (both (both h2).2).2] at h1
 exact hn (⟨p2,a,_,h1,h3⟩)
section
variable{c:Cf}{ν:List Addr}{env:Ev}{st st':St}{s s':ai}{r:Nat}{E:aa→ai→Prop}{t:Stmt}
theorem LN.o1(n:LN c r){x:Str}{j:Nat}(h:Xk true c.ce.scope c.nm x j=true):Xk c.wr c.ce.scope c.nm x j=true:=by rw[n.wr];exact h
theorem FG(ok:c.Ok)(n:LN c r)(h0:Oj t=true):JQ c r t .next:=fun env st N s E x h=>by
 obtain⟨q,h1,h2⟩:=Zg h0
 obtain⟨p,h1⟩:=Um h1
 obtain⟨p1,e1⟩:=Zt (both h2).1
 obtain⟨p2,p3,cp,e2⟩:=Oi (both h2).2
 rw[e1,e2] at h1
 subst h1
 have h:KR env st fun env st=>N (env.set 2 (some (.tag .one))) st:=h
 refine ZD (nU ok n x h fun ρ νf ν st' b s1 q i v e=> ?_) (ZB rfl)
 exact up (Xo (c:=c.re ρ νf) (sv:= .tag .one) ok.re i ⟨b,e,rfl⟩ (Ys ok.re (n.o1 n.one)) Sg fun s2 y=>⟨rfl,_,_,q,ρ,νf,ν,y.i,v⟩)
theorem xC(ok:c.Ok)(n:LN c r)(h0:Oh c.ce.scope c.nm t=true):JQ c r t .IJ:=fun env st N s E x h=>by
 refine aj fun hn=> ?_
 obtain⟨q,h1,h2⟩:=Zg h0
 obtain⟨p,h1⟩:=Um h1
 have h3:=both (both h2).2
 obtain⟨v,h4,h5⟩:=Zg h3.2
 obtain⟨p4,e1⟩:=Zt (both h5).1
 obtain⟨a,e2,h6⟩:=Xs (both (both h5).2).1
 obtain⟨p2,p3,cp,e3⟩:=Oi h6
 have ht:=(both h2).1
 have h4:=Y0 h4
 rw[e1,e2,e3,b6.mp (both (both h5).2).2] at h4
 rw[h4] at h1
 generalize q.t=tt at ht h1 h3
 generalize v.p=cp2 at h1
 obtain⟨ts,kk,p6,et⟩:=cA h3.1
 subst et
 clear h4 h2 h5 e1 e2
 subst h1
 refine hn (Ux ?_ (show swapsWith (.Call (.Name "_law_broken" p4) [.Call (.Name "_law_next" p2) [.Name "digits" p3] [] cp] [] cp2) (some (.Tuple ts kk p6)) p.line c.ce=pure false from ZB rfl) (Sh rfl))
 refine Z8 ?_
 have xx:=x
 refine aj fun hn=> ?_
 cases x with|mk ρ0 νf0 ν0 i0 v0=>
 refine hn (up (We (c:=c.re ρ0 νf0) (d:= .fn 971) ok.re i0 n.gb.k n.gb.d (nT (both nS).2) fun cv rq=> ?_))
 cases (DR.inv rq:cv=_)
 refine W6 (both (nR c.w.params)).2 rfl ?_
 rw[ZH rfl,jq,qe]
 have h:KR env st fun env st=>cN (r+1) 971 [.tag .one] st (fun v st=>XK (bindTo env [10,15,18,19,20] v) fun env=>N env st) To:=h
 refine ZG (nU ok n xx h fun ρ νf ν st' b s1 q i v e=>Z6 ⟨i.K,?_⟩)
 have o:=(calls (r+1) (c.re ρ νf) ν _ _ s1 971 [.tag .one] [.ref b] (fun sv st=>RQ sv fun v=>XK (bindTo (env.set 2 none) [10,15,18,19,20] v) fun env=>N env st) To ok.re n.r i (.cons ⟨b,e,rfl⟩ .nil) ⟨Bx.un q⟩).2
 refine Zi (o.then (R:=fun cv s3=>Zh c.M c.A (assign (.Tuple ts kk p6) c.ce cv) _ E s3) fun sv cv st2 s2 q2 r2 i2 g2=> ?_) (fun _ _ h=>h) fun ev s2 rx=>rx.no.elim
 refine WO q2 r2 fun d q2 r2=>Zw q2 fun env4 hb q2=> ?_
 exact up (Vv (c:=c.re ρ νf) ok.re i2 (n.wr▸ht) hb r2 fun s3 i3 _=>⟨rfl,_,_,q2,ρ,νf,ν,i3,v⟩)
end
noncomputable abbrev Ad.snk(ρ:Ad)(x b:Addr):Ad:={ρ with Np:=x,V2:=some b}
theorem FI{ρ:Ad}{x b:Addr}:∀a∈YW (ρ.snk x b),a=b∨a∈YW ρ:=fun a h=>(Un h).elim (fun h=> .inr (Xa (.inl h))) fun h=>h.elim (fun h=> .inr (Xa (.inr (.inl h)))) fun h=>h.elim (fun h=> .inl (bh h).symm) fun h=> .inr (Xa (.inr (.inr (.inr h))))
theorem xD(P:b7):(((HF P).nsMap mainGlobals "bytearray").isNone&&((HF P).nsMap builtinsNs "bytearray"==some (.type "bytearray")))=true:=by kernel_rfl
theorem xE:(VP.lookup ("bytes":Str)==some 4)=true:=by kernel_rfl
section
variable{c:Cf}{ν:List Addr}{env:Ev}{st st':St}{s s':ai}{r:Nat}{E:aa→ai→Prop}{t:Stmt}
theorem xF{x b D:Addr}{es:List dw}{m:Nat}(i:c.I ν env st s)(v:∀a∈YW c.ρ,RG c.h0 a)(hn:Pg .sink env=true)(kk:KS s s')(nx:s.heap.get? x=none)(nD:s.heap.get? D=none)(gx:s'.heap.get? x=some (Yy TY D))(gD:s'.heap.get? D=some (ZA es m))(rr:ZT c.w ["octets"] [.ref b] es)
  (gb:s'.heap.get? b=some (Wc #[])) (nb:s.heap.get? b=none) (bx:b≠x) (bD:b≠D):(c.re (c.ρ.snk x b) (b::c.νf)).I (b::ν) env {st with sink:=some []} s':=by
 have hv:∀x o,s.heap.get? x=some o→x∉ν→x∉b::ν:=fun x o e hb q=>(ay.mp q).elim (fun q=>Zj nb e q.symm) hb
 have x0:=(i.str.YC hv).keeps kk.keeps
 have nν:∀{y:Addr},s.heap.get? y=none→b≠y→y∉b::ν:=fun h1 h2 q=>(ay.mp q).elim (fun q=>h2 q.symm) fun q=>i.ZE h1 q rfl
 refine i.more kk.go nb ⟨_,gb,TX⟩ FI (fun a h=> .inr (v a h)) (fun j t cv hj ht=> ?_) ⟨fun l e=> ?_,fun j e=> ?_,fun l e=> ?_,fun l a e q=> ?_,x0.apart⟩
 ·cases t with
  |sink=>exact absurd hj (HS hn)
  |_=>exact ht
 ·cases x0.digits l e with|mk a vs n q g r=>exact⟨a,vs,n,q,g,r⟩
 ·cases x0.one j e with|mk a t n q g=>exact⟨a,t,n,q,g⟩
 ·cases e;exact⟨b,D,#[],es,m,rfl,gx,nν nx bx,gD,nν nD bD,rr,gb,rfl⟩
 ·cases x0.cur l a e q with|mk d arr t ta te es n e1 g1 n1 g2 r q z=>exact⟨d,arr,t,ta,te,es,n,e1,g1,n1,g2,r,q,z⟩
theorem xG(ok:c.Ok)(n:LN c r)(h0:HT t=true):JQ c r t .sink:=fun env st N s E x h=>by
 refine aj fun hn=> ?_
 obtain⟨q,h1,h2⟩:=Zg h0
 obtain⟨p,h1⟩:=Um h1
 obtain⟨p1,e1⟩:=Zt (both h2).1
 obtain⟨v,h4,h5⟩:=Zg (both h2).2
 obtain⟨p2,e2⟩:=Zt (both h5).1
 have h4:=Y0 h4
 rw[e2,b6.mp (both (both h5).2).1,b6.mp (both (both h5).2).2] at h4
 rw[e1,h4] at h1
 generalize v.p=cp at h1
 subst h1
 have h:W2 (Pg .sink env) (N (env.set 7 (some (.tag .sink))) {st with sink:=some []}):=h
 have I:=YF (Lu c.w.params)
 have hb:=both (xD c.w.params)
 cases x with|mk ρ νf ν i v0=>
 refine hn (ZD (Z8 (up (Vx (c:=c.re ρ νf) ok.re i n.gs I.g ?_))) (ZB rfl))
 refine XT (K:=KF c.w.params) I.mks rfl (Yu rfl (Z6 ⟨i.K,?_⟩))
 refine XD (bK (bq (l8 (br _ _) (by decide)) ok.depth) i.K (i.lim.keeps i.stays) (Vr (c:=c.re ρ νf) i) (IY (c:=c.re ρ νf) i) (gm.mp hb.1) (beq_iff_eq.mp hb.2) fun cv s3 y=> ?_)
 refine aj fun hn=> ?_
 cases y with|mk x D es m vs ec nx nD dx kk gx gD pv rr=>
 cases pv with|cons pv pv2=>cases pv2 with|nil=>
 cases pv with|mk b ev gb nb bx bD=>
 subst ec ev
 have i3:=xF (c:=c.re ρ νf) i v0 (Zk h).1 kk nx nD gx gD rr gb nb bx bD
 exact hn (up (Xo (c:=c.re (ρ.snk x b) (b::νf)) (sv:= .tag .sink) ok.re i3 ⟨⟨b,rfl⟩,rfl⟩ (Ys ok.re (n.o1 n.sink)) Sg fun s2 y=>⟨rfl,_,_,(Zk h).2,_,_,_,y.i,fun a m=>(FI a m).elim (fun q=>by subst q;exact(i.fresh nb).h0) (v0 a)⟩))
theorem lH(ok:c.Ok)(n:LN c r)(h0:isSame t=true):JQ c r t .same:=fun env st N s E x h=>by
 refine aj fun hn=> ?_
 obtain⟨q,h1,h2⟩:=Zg h0
 obtain⟨q2,h3,h4⟩:=Zg h2
 obtain⟨p1,a1,c1,e1,h5⟩:=FH (both h4).1
 obtain⟨p2,p3,e2⟩:=Rh h5
 obtain⟨o,e3,h6⟩:=Xs (both (both h4).2).1
 obtain⟨rr,e4,h7⟩:=Xs (both (both h4).2).2
 obtain⟨p4,a2,c2,e5,h8⟩:=FH h7
 obtain⟨p5,e6⟩:=Zt h8
 have eo:o= .NotEq:=by cases o<;>first|rfl|exact ff h6
 obtain⟨p6,h3⟩:=Lv h3
 obtain⟨b,p7,h1⟩:=xA h1
 rw[e1,e2,e3,eo,e4,e5,e6] at h3
 rw[h3] at h1
 subst h1
 clear h2 h4 h5 e1 e2 e3 eo e4 e5 e6 h6 h7 h8 h3
 have h:XK st.sink fun l=>lim l.length (XK env[7]? fun o=>W2 (Rr .sink o) (VB env 8 fun a=>mD a fun ls=>XK (YQ ls) fun ns=>(ns=l∧l.all ZR=true)∧N env st)):=h
 refine hn (Zw h fun l hl h=> ?_)
 have hz:l.length≤YU:=cw (Zk h).1
 refine Zw (Zk h).2 fun o ho h=> ?_
 cases JP (Zk h).1
 refine YZ (Zk h).2 fun a ha h=> ?_
 cases a with
 |own ls=>
  refine Zw (h:XK (YQ ls) fun ns=>(ns=l∧l.all ZR=true)∧N env st) fun ns hi h=> ?_
  refine aj fun hn=> ?_
  obtain⟨⟨en,hb⟩,hN⟩:=h
  subst en
  cases x with|mk ρ νf ν i v0=>
  have mb:(("bytes":Str),4)∈VP:=Zq (beq_iff_eq.mp xE)
  refine hn (DX (ZV (Z8 (up (WT (c:=c.re ρ νf) (b:=4) ok.re i n.gy.k n.gy.d mb ?_))) rfl))
  refine YL (c:=c) (b:=4) rfl ?_
  rw[ZH rfl,jq,qe]
  refine ZG ?_
  rw[sx,Rb rfl]
  refine Zb (Zi (G9.then (c:=c.re ρ νf) (SV (C:=Tf r) (c:=c.re ρ νf) ok.re (Ys ok.re (n.o1 n.sink)).n (by decide) (by decide) env st (fun sv st1=>sv= .tag .sink∧st1=st) To s i (Qp ho ⟨rfl,rfl⟩)) fun sv cv st1 s1 q1 r1 i1 g1'=> ?_) (fun _ _ h=>h) fun ev s2 rx=>rx.no.elim)
  refine aj fun hn=> ?_
  obtain⟨ea,eb⟩:=q1
  subst ea eb
  obtain⟨_,er⟩:=r1
  subst er
  cases i1.str.sink _ hl with|mk b D arr es m d1 d2 d3 d4 d5 d6 d7 d8=>
  refine hn (Zp (Zb (Zd (WR (c:=c.re ρ νf) (nm:=Yp 0) (v:= .ref b) i1 (Rw _) d2 d4 d6 (by kernel_rfl) rfl (Zb (up (wpAny_letTemporaryGo (Zc (Z6 ?_)))))))))
  have za:arr.size≤YU:=by rw[← XJ,d8];exact hz
  refine up (U5 (s:={s1 with toks:=s1.toks+1}) d7 za fun t tk=> ?_)
  have i2:(c.re ρ νf).I ν env st1 {s1 with toks:=tk}:=i1.ks (KS.tok s1 tk)
  have L:ZL (Tf r) (c.re ρ νf) ν (.Call (.Name "bytes" p4) [.Name "written" p5] [] c2) (.blt 4 (.cons (.var 8) .nil)):=Jk ok.re rfl n.gy.k n.gy.d mb (by decide) (Wd (fun _=>rfl) (SV ok.re n.wt (by decide) (by decide)) Wu)
  refine Zi (G9.then (c:=c.re ρ νf) (L env st1 (fun sv st2=>sv= .d (.bytes ns)∧st2=st1) To _ i2 (Qp ha (Yh hi (Z5 hb ⟨rfl,rfl⟩)))) fun sv cv st2 s2 q2 r2 i3 g2'=> ?_) (fun _ _ h=>h) fun ev s2 rx=>rx.no.elim
  refine aj fun hn=> ?_
  obtain⟨ea,eb⟩:=q2
  subst ea eb
  cases (DR.inv r2:tX ns _) with|mk bb t2 ev eq z=>
  subst ev
  refine hn (up (ne_bytes (up (wpAny_truthy_bool ?_))))
  rw[show(arr.toList !=bb.toList)=false by rw[GB (d8.trans eq.symm)];exact bne_self_eq_false _,if_neg fh]
  exact ZY ⟨rfl,env,_,hN,ρ,νf,ν,i3,v0⟩
 |_=>exact h.elim
end
noncomputable def cC(s:Stmt):Bool:=(HC s).any fun q=>isName "digits" q.t&&(Wz q.v).any fun v=>isName "list" v.f&&(Rj (isName "script") v.es&&v.UA.isEmpty)
theorem xK:(VP.lookup ("list":Str)==some 3)=true:=by kernel_rfl
noncomputable abbrev dgA(V:Addr):Ad:={digits:=some V}
theorem cD{V a:Addr}(h:a∈YW (dgA V)):a=V:=(Un h).elim (fun h=>(bh h).symm) fun h=>h.elim (fun h=>no h) fun h=>h.elim (fun h=>no h) fun h=>no h
theorem xH{w:b3}{ν:List Addr}{V:Addr}{ns:List Int}{h:Heap}{vs:Array aa}{n:Nat}(g:h.get? V=some (Zo vs n))(r:qf vs.toList ns):V1 w ν (dgA V) {digits:=some ns} h:=
 ⟨fun l e=>by cases e;exact⟨V,vs,n,rfl,g,r⟩,fun _ e=>(nomatch e),fun _ e=>(nomatch e),fun _ _ _ e=>(nomatch e),fun _ _ _ e=>(nomatch e)⟩
section
variable{c:Cf}{ν:List Addr}{env:Ev}{s:ai}{r:Nat}{E:aa→ai→Prop}{t:Stmt}{l:Addr}{vs:Array aa}{ns:List Int}
theorem xJ(ok:c.Ok)(hw:c.wr=true)(h0:cC t=true)(hd:Xk true c.ce.scope c.nm "digits" 1=true)(hs:c.nm.lookup ("script":Str)=some 0)(hl:GI c "list")(i:c.I ν (some (.d (.fn l))::env) {} s)(hρ:c.ρ={})(hn:Pg .digits (some (.d (.fn l))::env)=true)
  (hF:l∉c.F) (g:s.heap.IsList l vs) (hI:qf vs.toList ns) (hz:vs.size≤YU):Zh c.M c.A (exec t c.ce) (fun f s'=>f= .next∧LL c ((some (.d (.fn l))::env).set 1 (some (.tag .digits))) {digits:=some ns} s') E s:=by
 obtain⟨q,h1,h2⟩:=Zg h0
 obtain⟨p,h1⟩:=Um h1
 obtain⟨p1,e1⟩:=Zt (both h2).1
 obtain⟨v,h4,h5⟩:=Zg (both h2).2
 obtain⟨p2,e2⟩:=Zt (both h5).1
 obtain⟨a,e3,h6⟩:=Xs (both (both h5).2).1
 obtain⟨p3,e4⟩:=Zt h6
 have h4:=Y0 h4
 rw[e2,e3,e4,b6.mp (both (both h5).2).2] at h4
 rw[e1,h4] at h1
 generalize v.p=cp at h1
 subst h1
 refine ZD (Z8 (up (WT (b:=3) ok i hl.k hl.d (Zq (beq_iff_eq.mp xK)) ?_))) (ZB rfl)
 refine YL (c:=c) (b:=3) rfl ?_
 rw[ZH rfl,jq,qe]
 refine ZG (Zi (G9.then (SV (C:=Tf 0) ok hs (by decide) (by decide) (some (.d (.fn l))::env) {} (fun sv st1=>sv= .d (.fn l)) To s i (Qp rfl rfl)) fun sv cv st1 s1 q1 r1 i1 g1=> ?_) (fun _ _ h=>h) fun ev s2 rx=>rx.no.elim)
 subst q1
 cases (DR.inv r1:cv=_)
 obtain⟨o,g,gc,m,gd⟩:=g
 have g':s1.heap.get? l=some o:=g1.al l _ g (fun q=>by rw[hρ] at q;exact nomatch q) hF
 refine Z6 (up (call_list_seq l (.inl rfl) g' gc gd (fun h' c' k e=> ?_) hz))
 have i2:(c.re (dgA s1.heap.objs.size) (s1.heap.objs.size::c.νf)).I (s1.heap.objs.size::ν) (some (.d (.fn l))::env) {digits:=some ns} {s1 with heap:=h'}:=i1.more (.of_keeps k) (Zs _) ⟨_,e,Ym⟩ (fun a h=> .inl (cD h)) (fun a h=>by rw[hρ] at h;exact nomatch h) (fun j t v hj ht=>by
  cases t with
  |digits=>exact absurd hj (HS hn)
  |_=>rw[hρ] at ht;exact ht) (xH e hI)
 exact up (Xo (c:=c.re (dgA s1.heap.objs.size) (s1.heap.objs.size::c.νf)) (sv:= .tag .digits) ok.re i2 ⟨_,rfl,rfl⟩ (Ys ok.re (by rw[hw];exact hd)) Sg fun s2 y=>⟨rfl,_,_,_,y.i,fun a m=>by cases cD m;exact(i1.fresh (Zs _)).h0⟩)
end
inductive AbY(c:Cf)(I:Addr)(Ws:List (D × aa))(kp:List (Addr × Obj))(St':Nat→Heap→Prop)(r:Nat)(l:List LS)(ks:List Nat)(N:Ev→St→Prop)(n:Nat)(s:ai):Prop
 |mk (k:Nat) (ρ:Ad) (νf ν:List Addr) (env:Ev) (st:St) (e:n=ks.length - k) (z:k≤ks.length) (h:St' k s.heap) (m:I∉ν) (i:((c.re ρ νf).cc Ws kp).I ν env st s) (v:∀a∈YW ρ,RG c.h0 a) (q:M9 r l (ks.drop k) env st N)
section
variable{c:Cf}{s:ai}{r:Nat}{E:aa→ai→Prop}
theorem cE{target iter:Expr}{b:List Stmt}{pos:Pos}{l:List LS}{ks:List Nat}{it:PE}(ok:c.Ok)(hc:OF iter=true)(ht:U7 c.wr c.ce.scope c.nm target [9]=true)(h1:∀ρ νf ν,MW (Tf r) (c.re ρ νf) ν iter it)(hI:∀env st,xS (Tf r) it env st (fun items st1=>items=ks.map (fun(k:Nat)=> .int (k:Int))∧st1=st) To)
  (h2:∀ex kp,XW (c.cc ex kp) r b l) {env:Ev} {st:St} {N:Ev→St→Prop} (x:LL c env st s) (h:M9 r l ks env st N):Zh c.M c.A (exec (.For target iter b [] pos) c.ce) (fun f s'=>f= .next∧∃env st,N env st∧LL c env st s') E s:=by
 refine aj fun hn=> ?_
 cases x with|mk ρ νf ν i v=>
 refine hn (HY (Zi (h1 ρ νf ν _ _ _ _ _ i (hI env st)) (fun cv s1 x=> ?_) fun _ _ rx=>rx.no.elim) fun x=>Vw hc)
 refine aj fun hn=> ?_
 cases x with|mk items st1 q1 i1 g1 kit=>
 obtain⟨ei,es⟩:=q1
 subst es
 refine hn (up (kit _ _ _ fun I fp P St Ws kp s2 src=> ?_))
 have i2:=i1.ks src.ks
 have m0:=i1.fresh src.fresh
 have BI:c.B.get? I=none:=none_of i1.stays src.fresh
 have kI:∀p∈kp++c.kp,p.1≠I:=fun p hp q=>(jk.mp hp).elim (fun hp=>Zj src.fresh (src.uW p hp).e q.symm) fun hp=>Zj src.fresh (i1.X6 p hp).e q.symm
 have j2:((c.re ρ νf).cc (Ws++c.ex) (kp++c.kp)).I ν env st1 s2:=Cf.I.cc (ex:=c.ex) (kp:=c.kp) i2 (fun p hp=>(jk.mp hp).elim (fun hp=>(src.uY p hp).keeps src.ks.keeps) (i2.Ws p)) fun p hp=>(jk.mp hp).elim (fun hp=>⟨src.ks.keeps _ _ (src.uW p hp).e,(src.uW p hp).n⟩) (i2.X6 p)
 have W:=src.walks c.A ok.handled
 have hlen:items.length=ks.length:=by rw[ei,aq]
 refine Uw (AbY c I (Ws++c.ex) (kp++c.kp) St r l ks N) (fun n s3 hI=> ?_) ks.length ⟨0,ρ,νf,ν,env,st1,rfl,ie _,src.st,fun q=>i1.ZE src.fresh q rfl,j2,v,h⟩
 cases hI with|mk k ρ3 νf3 ν3 env3 st3 e z hst m i3 v3 hgo=>
 subst e
 have dr:=PD z
 generalize hr:ks.drop k=rest at hgo dr
 cases dr with
 |nil e=>
  subst e
  exact up (W.done _ _ _ (hlen▸hst) fun h' tk hkeep=>ZY ⟨rfl,env3,st3,hgo,ρ3,νf3,ν3,Cf.I.cc (i3.U8 ((src.JU _ _ hst).turn hkeep) BI m0.h0 kI) (fun p hp=>(i3.U8 ((src.JU _ _ hst).turn (t:=tk) hkeep) BI m0.h0 kI).Ws p (e7 _ hp)) fun p hp=>(i3.U8 ((src.JU _ _ hst).turn (t:=tk) hkeep) BI m0.h0 kI).X6 p (e7 _ hp),v3⟩)
 |@cons d _ lt d1 hn=>
  refine up (W.item k _ _ _ (hlen▸lt) hst fun v' h' tk hP hst' hkeep=> ?_)
  have i4:=i3.U8 ((src.JU _ _ hst).turn (t:=tk) hkeep) BI m0.h0 kI
  cases src.item k v' (hlen▸lt) hP with|mk d' d1' d2=>
  have ed:some d'=some (.int (d:Int)):=by rw[← d1',ei,f9,d1];rfl
  cases ed
  have rd:DR c.w ν3 h' (.int (d:Int)) v':=d2.elim (fun d2=>i4.Ws (.int (d:Int),v') (jo _ d2)) fun d2=>d2 _ _
  have fl:=src.JU _ _ hst'
  refine up (fl.go (s:={s3 with heap:=h',toks:=tk}) ?_)
  cases fl with|mk vs n dc sl eI _=>
  have i5:((c.re ρ3 νf3).cc (Ws++c.ex) ((I,_)::(kp++c.kp))).I ν3 env3 st3 {s3 with heap:=h',toks:=tk}:=Cf.I.cc i4 i4.Ws fun p hp=>(ay.mp hp).elim (fun q=>q▸⟨eI,m⟩) (i4.X6 p)
  refine up (Vv (c:=(c.re ρ3 νf3).cc (Ws++c.ex) ((I,_)::(kp++c.kp))) (env':=env3.set 9 (some (.d (.int (d:Int))))) ok.re.cc i5 ht rfl rd fun s6 i6 _=>Zi (h2 (Ws++c.ex) ((I,_)::(kp++c.kp)) _ st3 _ s6 _ ⟨ρ3,νf3,ν3,i6,v3⟩ hgo) (fun f s7 hp=> ?_) fun _ _ e=>e)
  obtain⟨ef,env7,st7,q7,x7⟩:=hp
  subst ef
  cases x7 with|mk ρ7 νf7 ν7 i7 v7=>
  refine⟨ks.length - (k+1),sd lt (gp k),k+1,ρ7,νf7,ν7,env7,st7,rfl,lt,W.frame _ _ _ hst' fun b hb o eb=> ?_,(i7.X6 (I,_) (.head _)).n,Cf.I.cc i7 i7.Ws (fun p hp=>i7.X6 p (.tail _ hp)),v7,hn▸q7⟩
  have go:∀p,p∈((I,_)::(kp++c.kp):List (Addr × Obj))→h'.get? p.1=some o→s7.heap.get? p.1=some o:=fun p hp e=>bh (e.symm.trans (i5.X6 p hp).e)▸(i7.X6 p hp).e
  exact(src.fpH b hb).elim (fun q=>q▸go _ (.head _) (q▸eb)) fun q=>(ku.mp q).elim fun p hp=>hp.2▸go p (.tail _ (jo _ hp.1)) (hp.2▸eb)
end
noncomputable def lwI:PE:=(.blt 1 (.cons (.lit (.int 4)) .nil))
noncomputable def Yx:NM:=[("script",0),("digits",1),("one",2),("pad",3),("ahead",4),("behind",5),("begin",6),("sink",7),("written",8),("k",9),("sort",10),("thing",11),("shorts",12),("longs",13),("least",14),("octets",15),("whole",16),("cut",17),("way",18),("why",19),("off",20)]
noncomputable def lI:List Str:=["script"]
noncomputable def Vb:List Str:=["digits","written"]
structure Cut where
 a:List Stmt
 s:Stmt
 b:List Stmt
noncomputable def cutAt(p:Stmt→Bool):List Stmt→Option Cut
 |[]=>none
 |s::r=>cond (p s) (some ⟨[],s,r⟩) ((cutAt p r).map fun q=>⟨s::q.a,q.s,q.b⟩)
theorem Ue{p:Stmt→Bool}{l:List Stmt}{q:Cut}(h:cutAt p l=some q):l=q.a++q.s::q.b∧p q.s=true:=by
 induction l generalizing q with
 |nil=>exact no h
 |cons s r ih=>
  unfold cutAt at h
  cases e:p s with
  |true=>
   rw[e] at h
   cases bh h
   exact⟨rfl,e⟩
  |false=>
   rw[e] at h
   obtain⟨q',h1,h2⟩:=bk.mp (h:(cutAt p r).map _=some q)
   subst h2
   exact⟨congrArg (s:: ·) (ih h1).1,(ih h1).2⟩
noncomputable def cF(p:Stmt→Bool)(l:List Stmt):Option Cut:=(cutAt p l).bind fun q=>cond q.a.isEmpty (some q) none
theorem Qx{p:Stmt→Bool}{l:List Stmt}{q:Cut}(h:cF p l=some q):l=q.s::q.b∧p q.s=true:=by
 refine aj fun hn=> ?_
 obtain⟨q',h1,h2⟩:=av.mp h
 have k:=Zy h2
 cases k.2
 have c:=Ue h1
 rw[b6.mp k.1] at c
 exact hn (c)
structure AbZ where
 g:Expr
 it:Expr
 b:List Stmt
noncomputable def xO:Stmt→Option AbZ
 | .For g it b o _=>cond o.isEmpty (some ⟨g,it,b⟩) none
 |_=>none
theorem lK{s:Stmt}{q:AbZ}(h:xO s=some q):∃p,s= .For q.g q.it q.b [] p:=by
 cases s with
 |For g it b o p=>
  have k:=Zy h
  cases b6.mp k.1
  cases k.2
  exact⟨p,rfl⟩
 |_=>exact no h
structure yC where
 sB:List Stmt
 sC:List Stmt
 g:Expr
 it:Expr
 sD:List Stmt
 sE:List Stmt
 sF:List Stmt
 XX:Stmt
structure LwR(sc:eg)(b:List Stmt)(q:yC)(s0 s1 s6 Xb t1 t2:Stmt)(p:Pos):Prop where
 e:b=s0::((s1::(q.sB++(s6::(q.sC++[]))))++(.For q.g q.it (t1::(q.sD++(t2::(q.sE++[])))) [] p::((Xb::(q.sF++[]))++[q.XX])))
 h0:cC s0=true
 h1:Oj s1=true
 h6:HT s6=true
 L9:Oh sc Yx Xb=true
 k1:Oj t1=true
 k2:isSame t2=true
noncomputable def Acb(s:Stmt):Bool:=(xO s).isSome
noncomputable def Aca(s:Stmt):Bool:=(aQ s).isSome
noncomputable def lwP(sc:eg)(b:List Stmt):Option yC:=(cF cC b).bind fun c0=>(cF Oj c0.b).bind fun c1=>(cutAt HT c1.b).bind fun c2=>(cutAt Acb c2.b).bind fun c3=>(xO c3.s).bind fun f=>(cF Oj f.b).bind fun t1=>(cutAt isSame t1.b).bind fun t2=>
 (cF (Oh sc Yx) c3.b).bind fun c4=>(cutAt Aca c4.b).bind fun c5=>cond c5.b.isEmpty (some ⟨c2.a,c3.a,f.g,f.it,t2.a,t2.b,c5.a,c5.s⟩) none
theorem xN{sc:eg}{b:List Stmt}{q:yC}(h:lwP sc b=some q):∃s0 s1 s6 Xb t1 t2 p,LwR sc b q s0 s1 s6 Xb t1 t2 p:=by
 refine aj fun hn=> ?_
 obtain⟨c0,h0,h⟩:=av.mp h
 obtain⟨c1,h1,h⟩:=av.mp h
 obtain⟨c2,h2,h⟩:=av.mp h
 obtain⟨c3,h3,h⟩:=av.mp h
 obtain⟨f,h4,h⟩:=av.mp h
 obtain⟨t1,h5,h⟩:=av.mp h
 obtain⟨t2,h6,h⟩:=av.mp h
 obtain⟨c4,h7,h⟩:=av.mp h
 obtain⟨c5,h8,h⟩:=av.mp h
 have k:=Zy h
 cases k.2
 have h0:=Qx h0
 have h1:=Qx h1
 have h2:=Ue h2
 have h3:=Ue h3
 obtain⟨p,h4⟩:=lK h4
 have h5:=Qx h5
 have h6:=Ue h6
 have h7:=Qx h7
 have h8:=Ue h8
 rw[b6.mp k.1] at h8
 refine hn (⟨c0.s,c1.s,c2.s,c4.s,t1.s,t2.s,p,?_,h0.2,h1.2,h2.2,h7.2,h5.2,h6.2⟩)
 rw[h0.1,h1.1,h2.1,h3.1,h4,h5.1,h6.1,h7.1,h8.1]
 simp only[bw,List.cons_append,b8]
noncomputable def nW(sc:eg)(b:List Stmt):Bool:=(lwP sc b).any (fun q=>OF q.it&&U7 true sc Yx q.g [9])&&((["_law_next","_law_broken","Sink","bytes","list"]:List Str).all (fun x=>Xl sc Yx x)&&(Xk true sc Yx "one" 2&&(Xk true sc Yx "sink" 7&&(Xk true sc Yx "digits" 1&&sc.names.lookup ("digits":Str)==some .local))))
theorem cG(P:b7):(lwP (fdOf (KF P) 976).scope (bodyOf (fdOf (KF P) 976))).map (fun q=>(WZ (tr 200) (fdOf (KF P) 976).scope Yx Vb 60 q.sB,WZ (tr 200) (fdOf (KF P) 976).scope Yx Vb 60 q.sC,trI ((tr 200).E (fdOf (KF P) 976).scope Yx) (fdOf (KF P) 976).scope Yx q.it,WZ (tr 200) (fdOf (KF P) 976).scope Yx Vb 60 q.sD,WZ (tr 200) (fdOf (KF P) 976).scope Yx Vb 60 q.sE,WZ (tr 200) (fdOf (KF P) 976).scope Yx Vb 60 q.sF,WZ (tr 200) (fdOf (KF P) 976).scope Yx Vb 60 [q.XX]))=
  some (xV,lwC,lwI,cO,xU,lwF,.seq lwG .skip):=by kernel_rfl
theorem xM(P:b7):(V5 (KF P) 976&&(RK (fdOf (KF P) 976).scope Yx lI&&nW (fdOf (KF P) 976).scope (bodyOf (fdOf (KF P) 976))))=true:=by kernel_rfl
theorem lJ(P:b7)(S:jw)(a:aa):peek (KF P) S (m6 (fdOf (KF P) 976) ⟨[a],[]⟩)=some (lI.zip [a]):=by kernel_rfl
structure xP(sc:eg)(b:List Stmt)(q:yC)(s0 s1 s6 Xb t1 t2:Stmt)(p:Pos):Prop where
 r:LwR sc b q s0 s1 s6 Xb t1 t2 p
 tB:WZ (tr 200) sc Yx Vb 60 q.sB=xV
 tC:WZ (tr 200) sc Yx Vb 60 q.sC=lwC
 tI:trI ((tr 200).E sc Yx) sc Yx q.it=lwI
 tD:WZ (tr 200) sc Yx Vb 60 q.sD=cO
 tE:WZ (tr 200) sc Yx Vb 60 q.sE=xU
 tF:WZ (tr 200) sc Yx Vb 60 q.sF=lwF
 tG:WZ (tr 200) sc Yx Vb 60 [q.XX]= .seq lwG .skip
 it:OF q.it=true
 tg:U7 true sc Yx q.g [9]=true
 gs:∀x∈(["_law_next","_law_broken","Sink","bytes","list"]:List Str),Xl sc Yx x=true
 one:Xk true sc Yx "one" 2=true
 snk:Xk true sc Yx "sink" 7=true
 dg:Xk true sc Yx "digits" 1=true
 kd:sc.names.lookup ("digits":Str)=some .local
structure LwF(P:b7)(fd:jh)(o:Obj):Prop where
 f:Yt P 976 fd o (bodyOf fd) lI
 s:RK fd.scope Yx lI=true
 t:∃q s0 s1 s6 Xb t1 t2 p,xP fd.scope (bodyOf fd) q s0 s1 s6 Xb t1 t2 p
theorem cH(P:b7):LwF P (fdOf (KF P) 976) (objOf (KF P) 976):=by
 have h:=both (xM P)
 have h2:=both h.2
 refine aj fun hn=> ?_
 obtain⟨q,h1,h3⟩:=bk.mp (cG P)
 have k:=q8 h3
 have k2:=q8 k.2
 have k3:=q8 k2.2
 have k4:=q8 k3.2
 have k5:=q8 k4.2
 have k6:=q8 k5.2
 obtain⟨s0,s1,s6,Xb,t1,t2,p,e⟩:=xN h1
 have c:=h2.2
 unfold nW at c
 rw[h1] at c
 have c:=both c
 have c1:=both c.1
 have c2:=both c.2
 have c3:=both c2.2
 have c4:=both c3.2
 have c5:=both c4.2
 exact hn (⟨YX h.1 fun S vals hl=>by
  obtain⟨a,r,e,h⟩:=Yo hl
  cases RL h
  subst e
  exact lJ P S a,h2.1,q,s0,s1,s6,Xb,t1,t2,p,e,k.1,k2.1,k3.1,k4.1,k5.1,k6.1,k6.2,c1.1,c1.2,fun x hx=>az.mp c2.1 x hx,c3.1,c4.1,c5.1,beq_iff_eq.mp c5.2⟩)
section
variable{c:Cf}{ν:List Addr}{s:ai}{r:Nat}{E:aa→ai→Prop}{l:Addr}{vs:Array aa}{m:Nat}{ns:List Int}{sc:eg}{b:List Stmt}{q:yC}{s0 s1 s6 Xb t1 t2:Stmt}{p:Pos}
theorem xP.n(T:xP sc b q s0 s1 s6 Xb t1 t2 p)(hr:c.r=r+1)(hw:c.wr=true)(hsc:c.ce.scope=sc)(hnm:c.nm=Yx):LN c r:=by
 subst hsc
 have g:∀x∈(["_law_next","_law_broken","Sink","bytes","list"]:List Str),Xl c.ce.scope c.nm x=true:=by rw[hnm];exact T.gs
 exact⟨hr,hw,by rw[hnm];rfl,T.kd,Yd (g _ (.head _)),Yd (g _ (.tail _ (.head _))),g _ (.tail _ (.tail _ (.head _))),Yd (g _ (.tail _ (.tail _ (.tail _ (.head _))))),by rw[hnm];exact T.one,by rw[hnm];exact T.snk,by rw[hnm];rfl⟩
theorem Rl{t:List Stmt}{pp:PS}(ok:c.Ok)(hw:c.wr=true)(hr:c.r=r+1)(hsc:c.ce.scope=sc)(hnm:c.nm=Yx)(e:WZ (tr 200) sc Yx Vb 60 t=pp)(ρ:Ad)(νf:List Addr):Wv (Tf r) (c.re ρ νf) t pp:=
 e▸Qu (wU r) (Fj (wU r).toHyp 200) (c.re ρ νf) ok.re hw hr hsc hnm t
theorem lO(T:xP sc b q s0 s1 s6 Xb t1 t2 p)(ok:c.Ok)(hw:c.wr=true)(hr:c.r=r+1)(hsc:c.ce.scope=sc)(hnm:c.nm=Yx):XW c r (s1::(q.sB++(s6::(q.sC++[])))) tL:=
 have n:=T.n hr hw hsc hnm
 .cons (FG ok n T.r.h1) (.Ez (Rl ok hw hr hsc hnm T.tB) (.cons (xG ok n T.r.h6) (.Ez (Rl ok hw hr hsc hnm T.tC) .nil)))
theorem lN(T:xP sc b q s0 s1 s6 Xb t1 t2 p)(ok:c.Ok)(hw:c.wr=true)(hr:c.r=r+1)(hsc:c.ce.scope=sc)(hnm:c.nm=Yx):XW c r (t1::(q.sD++(t2::(q.sE++[])))) tK:=
 have n:=T.n hr hw hsc hnm
 .cons (FG ok n T.r.k1) (.Ez (Rl ok hw hr hsc hnm T.tD) (.cons (lH ok n T.r.k2) (.Ez (Rl ok hw hr hsc hnm T.tE) .nil)))
theorem lM(T:xP sc b q s0 s1 s6 Xb t1 t2 p)(ok:c.Ok)(hw:c.wr=true)(hr:c.r=r+1)(hsc:c.ce.scope=sc)(hnm:c.nm=Yx):XW c r (Xb::(q.sF++[])) tM:=
 have n:=T.n hr hw hsc hnm
 .cons (xC ok n (by rw[hsc,hnm];exact T.r.L9)) (.Ez (Rl ok hw hr hsc hnm T.tF) .nil)
theorem it4{env:Ev}{st:St}:xS (Tf r) lwI env st (fun items st1=>items=[0,1,2,3].map (fun(k:Nat)=> .int (k:Int))∧st1=st) To:=kr (B:=YO 4=[0,1,2,3].map (fun(k:Nat)=> .int (k:Int))∧st=st) ⟨rfl,rfl⟩ (by kernel_rfl)
end
section
variable{c:Cf}{ν:List Addr}{s:ai}{r:Nat}{E:aa→ai→Prop}{l:Addr}{vs:Array aa}{ns:List Int}{sc:eg}{b:List Stmt}{q:yC}{s0 s1 s6 Xb t1 t2:Stmt}{p:Pos}
set_option backward.match.sparseCases true in
theorem cI{R:aa→ai→Prop}(T:xP sc b q s0 s1 s6 Xb t1 t2 p)(ok:c.Ok)(hw:c.wr=true)(hr:c.r=r+1)(hsc:c.ce.scope=sc)(hnm:c.nm=Yx)(hρ:c.ρ={})(i:c.I ν (some (.d (.fn l))::i8 21 none) {} s)(hF:l∉c.F)(g:s.heap.IsList l vs)(hI:qf vs.toList ns)(hz:vs.size≤YU)
  (h:AaH r (.fn l) ns) (hR:∀s',(∀b o,c.h0.get? b=some o→b∉c.F→s'.heap.get? b=some o)→s'.os=c.os→s'.gens= #[]→R (.bool true) s'):Zh c.M c.A (execs b c.ce) (fun f s'=>R (match f with| .ret v=>v|_=> .none) s') E s:=by
 have n:=T.n hr hw hsc hnm
 have gl:GI c "list":=Yd (by rw[hsc,hnm];exact T.gs _ (.tail _ (.tail _ (.tail _ (.tail _ (.head _))))))
 rw[T.r.e]
 refine ZP (Zi (xJ (env:=i8 21 none) ok hw T.r.h0 (by rw[hsc,hnm];exact T.dg) (by rw[hnm];rfl) gl i hρ rfl hF g hI hz) (fun f s1' x=> ?_) fun _ _ e=>e)
 obtain⟨ef,x⟩:=x
 subst ef
 refine Lx (Zi (lO T ok hw hr hsc hnm _ _ _ _ E x h) (fun f s2 z=>⟨z.1,z.2.elim fun env z=>z.elim fun st z=> ?_⟩) fun _ _ e=>e)
 refine ZP (Zi (cE (E:=E) ok T.it (by rw[hsc,hnm,hw];exact T.tg) (fun ρ νf ν=> ?_) (fun env st=>it4) (fun ex kp=>lN T ok.cc hw hr hsc hnm) z.2 z.1) (fun f s3 y=> ?_) fun _ _ e=>e)
 ·have tE:cQ (Tf r) (c.re ρ νf) ((tr 200).E (c.re ρ νf).ce.scope (c.re ρ νf).nm):=fun ν e=>(Fj (wU r).toHyp 200 (c.re ρ νf) ν e ok.re hr).1
  have:=Le (ν:=ν) (e:=q.it) (ok.re:(c.re ρ νf).Ok) (tE ν)
  rw[show(c.re ρ νf).ce.scope=sc from hsc,show(c.re ρ νf).nm=Yx from hnm,T.tI] at this
  exact this
 refine aj fun hn=> ?_
 obtain⟨ef,env3,st3,h3,x3⟩:=y
 subst ef
 refine hn (Lx (Zi (lM T ok hw hr hsc hnm _ _ _ _ E x3 h3) (fun f s4 z=>⟨z.1,z.2.elim fun env z=>z.elim fun st z=> ?_⟩) fun _ _ e=>e))
 refine aj fun hn=> ?_
 obtain⟨h4,x4⟩:=z
 cases x4 with|mk ρ νf ν4 i4 v4=>
 refine hn (Zi (Rl ok hw hr hsc hnm T.tG ρ νf ν4 _ _ (fun _ _=>False) _ _ _ i4 h4) (fun f s5 y=> ?_) fun ev s5 x=>x.no.elim)
 cases f with
 |ret v=>
  cases y with|mk d st5 env5 q5 r5 i5=>
  subst q5
  cases (DR.inv r5:v=_)
  exact hR s5 (fun b o e hb=>i5.al b o e (fun w=>Zj (v4 b w) e rfl) hb) i5.os i5.gens
 |next=>cases y with|mk _ _ _ q _=>exact False.elim q
 |_=>exact False.elim y
end
end
section
open PyProof.Rows PySem PySem.Calls PySem.SeqAt PySem.W
section
open Sem (wp)
theorem L4{prog:k9}{w:b3}{t:Sem Fin}{s:ai}{R:ly→ai→Prop}(hreg:s.asleep)
  (h:Zh (model prog w) yd t (fun fin s'=>∃f,fin= .done f∧(R (.ok f) s'∧leftWithCleanup s'.gens=false)) (fun e s'=>R (.error e) s'∧leftWithCleanup s'.gens=false) s):
  ∃n r s' s'',runN (denote A06) prog w n s ⟨t,.builtin "claim.caller" {},default,[]⟩= .halted (outcomeOf r) s'∧
   schedN (denote A06) prog w n (.single s ⟨t,.builtin "claim.caller" {},default,[]⟩)= .halted (outcomeOf r) s'∧s'.forget=s''.forget∧R r s'':=by
 have key:wp (model prog w) ⟨.builtin "claim.caller" {},none,none,[],none⟩ t (Sem.finPost (model prog w) ⟨.builtin "claim.caller" {},none,none,[],none⟩ fun r s'=>R r s'∧leftWithCleanup s'.gens=false) (fun e _ s'=>R (.error e) s'∧leftWithCleanup s'.gens=false) default s:=by
  refine ni (model prog w) _ t (fun fin p' s' h'=> ?_) (fun _ _ _ h'=>h') default s (h _ default caller_in ⟨by decide+kernel,fun x hx=>by cases hx⟩)
  obtain⟨f,rfl,hf⟩:=h'
  exact hf
 obtain⟨n,r,s₁,s₂,hs,hn,hfo,hR⟩:=wp_halts_full (M:=model prog w) (R:=R) hreg key
 exact⟨n,r,s₂,s₁,hn,hs,hfo,hR⟩
theorem Dv{c:ClaimW}{tree:List aa→Sem Fin}{w:b3}{s:ai}{free:Addr→Prop}{gens:Prop}{kept:Heap→Prop}(hz:s.asleep)(hgens:s.gens= #[])
  (hspec:∀args,c.pre args=true→yy args=true→
   ∀ord:List dw→List dw,(∀l,(ord l).Perm l)→
   ∃vs s₁,layAllW c.records (A0Z s.heap) w.params ord args s=some (vs,s₁)∧
    Zh (model c.prog w) yd (tree vs) (fun fin s'=>∃f,fin= .done f∧(c.Ends s args vs s₁ (.ok f) s'∧s'.os=s.os∧AllBare s'.gens∧kept s'.heap))
     (fun e s'=>c.Ends s args vs s₁ (.error e) s'∧s'.os=s.os∧AllBare s'.gens∧kept s'.heap) s₁):
  c.CallFrom (fun vs=>⟨tree vs,.builtin "claim.caller" {},default,[]⟩) w free gens kept s:=by
 intro args hpre hlay ord hord
 refine aj fun hn=>(hspec args hpre hlay ord hord).elim fun vs h=>h.elim fun s₁ h=> ?_
 have hal:=(layAllW_rest _ _ _ h.1).2.2.2
 refine(L4 (prog:=c.prog) (w:=w) (t:=tree vs) (s:=s₁) (R:=fun r s'=>c.Ends s args vs s₁ r s'∧s'.os=s.os∧kept s'.heap) (Shared.asleep_of_life hal hz)
  (Zi h.2 (fun fin s' h=>h.imp fun f h=>⟨h.1,⟨h.2.1,h.2.2.1,h.2.2.2.2⟩,ve h.2.2.2.1⟩)
   fun e s' h=>⟨⟨h.1,h.2.1,h.2.2.2⟩,ve h.2.2.1⟩)).elim fun k x=>x.elim fun r x=>x.elim fun s' x=>x.elim fun s'' x=> ?_
 have eh:=Shared.forget_eq x.2.2.1
 exact hn ⟨vs,s₁,h.1,k,_,s',x.2.1,(x.2.2.2.1.congr eh.1).imp (A0G fun v y=>⟨congrArg outcomeOf y.1,y.2.1,y.2.2.1,y.2.2.2.1,fun b o z _=>y.2.2.2.2.1 b o z,y.2.2.2.2.2⟩)
  (A0G fun e=>A0G fun ob=>A0G fun cls y=>⟨congrArg outcomeOf y.1,y.2.1,y.2.2.1,y.2.2.2.1,y.2.2.2.2.1,fun b o z _=>y.2.2.2.2.2 b o z⟩),
  fun _ i x hx=>(nomatch (hgens▸hx:(#[]:Array yp)[i]?=some x)),eh.1▸x.2.2.2.2.2,congrArg _ ((runN_life _ _ _ x.1).trans hal),Shared.rest_eq (eh.2.2.2.1.trans x.2.2.2.2.1)⟩
theorem Du{r:RowW}{run:aa→List aa→Sem aa}{tree:List aa→Sem Fin}{q:k9}{loose defs X6:List Str}{writes:Bool}{Xt:ai→Bool}{XP:(Str→Option aa)→Heap→Prop}{α:Type}{Yf:ai→α}{Ya:b3→α}{YP:b3→Heap→Prop}{N:Nat}
  (left:LeftO r.prog q loose Xt Yf Ya N) (hY:∀w s,Yf s=Ya w→YP w s.heap) (hYk:∀w h h',YP w h→(∀b o,h.get? b=some o→h'.get? b=some o)→YP w h') (hX:∀s,Xt s=true→XP (s.heap.nsMap mainGlobals) s.heap) (hXk:∀mg h h',XP mg h→(∀b o,h.get? b=some o→h'.get? b=some o)→XP mg h')
  (hRf:∀s,Xt s=true→RecFacts r.records s.heap) (hwr:(!writes||r.records.isEmpty)=true) (ok:(chainsOk q&&opensWell r.prog&&(frees r&&r.within.isEmpty))=true) (hb:r.prog.bare) (hw:r.promised)
  (ht:∀vs (w:b3) (s:ai) mg f (Q:Fin→ai→Prop) (E:aa→ai→Prop),s.heap.Ns mainGlobals mg→mg r.name=some f→Zh (model r.prog w) yd (run f vs) (fun v s'=>Q (.done (.ret v)) s') E s→Zh (model r.prog w) yd (tree vs) Q E s)
  (pin:∀w s,s.heap.isNs mainGlobals=true→Ground q loose [] XP w s (s.heap.nsMap mainGlobals) (s.heap.nsMap builtinsNs) s.heap→∀n∈defs,isTheDefsW r.prog s.heap n)
  (call:∀(w:b3) (s₀ s₁:ai) (mg mb:Str→Option aa),Ground q loose r.records XP w s₀ mg mb s₁.heap→YP w s₁.heap→∀(args:List WData) (vs:List aa) (as:List Addr),
   r.claim.pre args=true→yy args=true→Laid r.records w s₀ s₁ args vs as→A0E<s₀.heap.objs.size→∃f,mg r.name=some f∧
    Zh (model r.prog w) yd (run f vs) (fun v s'=>GoodWG r.claim (A0Z s₀.heap) (yo s₀.heap) args s₁ (.ok (.ret v)) s')
     (fun e s'=>GoodWG r.claim (A0Z s₀.heap) (yo s₀.heap) args s₁ (.error e) s') s₁):r.claim.HoldsOpenBy (fun vs=>⟨tree vs,.builtin "claim.caller" {},default,[]⟩) defs X6 writes:=by
 refine aj fun hn=> ?_
 obtain⟨ok,k5⟩:=gj.mp ok
 obtain⟨hch,o1⟩:=gj.mp ok
 obtain⟨k5,k6⟩:=gj.mp k5
 obtain⟨hsame,hu,ha,hap,hm⟩:=frees_parts k5
 refine hn (⟨⟨hb,o1,by show r.makers.map _=[];rw[hm];rfl⟩,hw.witness,fun w=>⟨(left.behind hX hch w).1,fun s' hs'=>aj fun hn=> ?_⟩⟩)
 obtain⟨s₀,hf,hg0,s,hT,hz,hgens,hg,G00,y⟩:=(left.behind (XP:=fun mg h=>XP mg h∧RecFacts r.records h) (fun s hs=>⟨hX s hs,hRf s hs⟩) hch w).2 s' hs'
 have G0:Ground q loose [] XP w s (s.heap.nsMap mainGlobals) (s.heap.nsMap builtinsNs) s.heap:=⟨G00.T,G00.B,G00.D,G00.TE,G00.TD,G00.W,G00.X.1,G00.cls,G00.has,G00.apart,G00.once,G00.K⟩
 have RF:=G00.X.2
 have hT':=hT
 have hgens:s.gens= #[]:=jy (beq_iff_eq.mp hgens)
 have G:Ground q loose r.records XP w s _ _ s.heap:=RF.ground G0
 refine hn ⟨s₀,hf,hg0,s,hT,pin w s hg G0,RF.1,RF.2.1,Dv (c:=r.claim) hz hgens fun args hpre hlay ord hord=>aj fun hn=> ?_⟩
 obtain⟨⟨vs,s₁⟩,hlaid⟩:=fk.mp (layAllW_isSome (P:=w.params) (ord:=ord) G.has args r.args s (pre_splitW hpre).1)
 have keeps:=layAllW_keeps _ _ _ hlaid
 have hal:=layAllW_rest _ _ _ hlaid
 obtain⟨as,hrd,hin,hold⟩:=reads_layAllW hord _ _ _ hlaid hlay s₁.heap (fun _ _ e=>e)
 have L:Laid r.records w s s₁ args vs as:=⟨⟨ord,hord,hlaid⟩,hrd,hin,hold,keeps,hal.1.trans hgens,hal.2.2.1⟩
 have G₁:=G.keeps hXk keeps
 obtain⟨f,hf,h⟩:=call w s s₁ _ _ G₁ (hYk _ _ _ (hY w s y) keeps) args vs as hpre hlay L G.low
 have hi:=ident_freeW hu ha hap
 have hwi:r.claim.within=[]:=b6.mp k6
 exact hn ⟨vs,s₁,hlaid,ht vs w s₁ _ f _ _ G₁.T.g hf (Zi h (fun v s' g=>⟨_,rfl,have z:=g.laid (c:=r.claim) hsame hwi hi L;⟨z.1,z.2.1,z.2.2,fun q=>⟨namesKept_of hT' hg X6 keeps g.2.1.old,noTable hwr q⟩⟩⟩) fun e s' g=>have z:=g.laid (c:=r.claim) hsame hwi hi L;⟨z.1,z.2.1,z.2.2,fun q=>⟨namesKept_of hT' hg X6 keeps g.2.1.old,noTable hwr q⟩⟩)⟩
abbrev nX(q:k9)(loose:List Str)(XP:(Str→Option aa)→Heap→Prop)(YP:b3→Heap→Prop)(r:RowW)(d:DefRec)(kwd:List (Str × Expr))(run:aa→List aa→Sem aa):Prop:=
 ∀(w:b3) (s₀ s₁:ai) (mg mb:Str→Option aa),Ground q loose r.records XP w s₀ mg mb s₁.heap→YP w s₁.heap→∀(a:Addr) (o:Obj) (pm cd doc dV kV:aa),s₁.heap.get? a=some o→
  o.data= .func {docDef d.name d.params d.body d.scope pm cd doc with defaults:=dV,kwdefaults:=kV}→s₁.heap.CodeRec cd d.name→Dflts mg s₁.heap d.params kwd dV kV→mg d.name=some (.ref a)→s₁.gens= #[]→
  ∀(args:List WData) (vals:List aa) (as:List Addr),r.claim.pre args=true→yy args=true→ReadsAllW r.records (A0Z s₀.heap) s₁.heap vals args as→WellAll w.params s₁.heap vals args→(∀a∈as,(a==A0E)=false)→
   Zh (model r.prog w) yd (run (.ref a) vals) (fun v s'=>GoodWG r.claim (A0Z s₀.heap) (yo s₀.heap) args s₁ (.ok (.ret v)) s')
    (fun e s'=>GoodWG r.claim (A0Z s₀.heap) (yo s₀.heap) args s₁ (.error e) s') s₁
theorem Lz{r:OpenRow}{q:k9}{loose:List Str}{Xt:ai→Bool}{XP:(Str→Option aa)→Heap→Prop}{α:Type}{Yf:ai→α}{Ya:b3→α}{YP:b3→Heap→Prop}{d:DefRec}{kwd:List (Str × Expr)}{N:Nat}
  (left:LeftO r.prog q loose Xt Yf Ya N) (hY:∀w s,Yf s=Ya w→YP w s.heap) (hYk:∀w h h',YP w h→(∀b o,h.get? b=some o→h'.get? b=some o)→YP w h')
  (hX:∀s,Xt s=true→XP (s.heap.nsMap mainGlobals) s.heap) (hXk:∀mg h h',XP mg h→(∀b o,h.get? b=some o→h'.get? b=some o)→XP mg h')
  (hdef:defOf q r.name=some (d,kwd)) (hp:r.prog.theDef r.name=some (d.params,d.body,d.scope)) (hk:kwWritten? d.params.kwonlyargs d.params.kw_defaults=some kwd) (hRf:∀s,Xt s=true→RecFacts r.records s.heap) (hwr:(!r.writes||r.records.isEmpty)=true)
  (k1:r.wellSaid=true) (ok:(chainsOk q&&opensWell r.prog&&(frees r.toRowW&&r.within.isEmpty))=true) (hb:r.prog.bare) (hw:r.toRowW.promised)
  (call:nX q loose XP YP r.toRowW d kwd fun f vs=>PySem.call f vs):r.Holds:=by
 refine⟨k1,hw,Du (r:=r.toRowW) (run:=fun f vs=>PySem.call f vs) (tree:=fun vs=>do match ← nsGet mainNs r.name with
   |some f=>do ret (← PySem.call f vs)
   |none=>unsupported "claim.caller:no-such-global") left hY hYk hX hXk hRf hwr ok hb hw
  (fun vs w s mg f Q E hg hf h=>Zb (up (wpAny_nsGet hg (by rw[hf];exact Zb (Zi h (fun _ _ x=>Zc x) fun _ _ x=>x)))))
  (fun w s hg G n hn=> ?_) fun w s₀ s₁ mg mb G Y args vs as hpre hlay L low=> ?_⟩
 ·obtain rfl:n=r.name:=by split at hn<;>simp_all
  exact pinned_of_view hg G hdef hp hk
 ·refine aj fun hn=> ?_
  obtain⟨a,o,pm,cd,doc,dV,kV,h1,h2,h3,h4,h5⟩:=G.fn hdef
  exact hn (⟨.ref a,h1,call w s₀ s₁ mg mb G Y a o pm cd doc dV kV h2 h3 h4 h5 (defOf_name hdef▸h1) L.gens args vs as hpre hlay L.reads L.well (L.low low)⟩)
end
theorem lP(call:nX Q0 Qy (fun _ _=>True) Sz PySem.Challenge.rw_nm0161_01.row.toRowW UD [] fun f vs=>PySem.call f vs):PySem.Challenge.rw_nm0161_01.Holds:=by
 refine Dz fun said=> ?_
 refine Lz (q:=Q0) (loose:=Qy) (Xt:=recOk []) (XP:=fun _ _=>True) (Yf:=fun s=>s.heap) (Ya:=fun w=>HF w.params) (YP:=Sz) (d:=UD) (kwd:=[]) (N:=14756)
  Aad (fun w s e b o h=>by rw[show s.heap=HF w.params from e];exact h) (fun w h h' y k b o e=>k b o (y b o e)) (fun _ _=>trivial) (fun _ _ _ _ _=>trivial) Aae hp_ rfl (fun s e=>recFacts_of e) rfl said ok_
  ⟨rfl,rfl,rfl,rfl,rfl,by decide+kernel⟩ ⟨[.list []],by decide+kernel,by decide+kernel⟩ call
theorem L5(H:∀(w:b3) (s:ai) (l:Addr) (vs:List aa) (ns:List Int),Sz w s.heap→s.gens= #[]→s.heap.IsList l vs.toArray→qf vs ns→ns.length≤63→s.heap.NoLimit→s.heap.NoSeer→
  Zh (model PySem.Challenge.pw_nm0161_01 w) yd (PySem.call (.ref 976) [.ref l])
   (fun v s'=>v= .bool true∧(∀b o,s.heap.get? b=some o→s'.heap.get? b=some o)∧s'.os=s.os∧s'.gens= #[]) (fun _ _=>False) s):PySem.Challenge.rw_nm0161_01.Holds:=by
 refine lP ?_
 intro w s₀ s₁ mg mb G Y a o pm cd doc dV kV ho hd hcd hD hmg hg args vals as hpre hlay hrd hwl hlo
 wrow_args hpre hlay hrd hwl hlo
 rename qf _ _=>hI
 rename Heap.IsList _ _ _=>hL
 rename ¬_<_=>hc
 have e:a=976:=by
  have h1:=rY w.params
  have h2:s₁.heap.Ns mainGlobals ((HF w.params).nsMap mainGlobals):=(vo (S1 w.params)).keeps Y
  have h3:=cX h2 G.T.g
  rw[h3] at h1
  have h4:mg UD.name=mg "law":=rfl
  rw[h4] at hmg
  rw[hmg] at h1
  exact Value.ref.inj (bh h1)
 subst e
 refine Zi (H w s₁ _ _ _ Y hg hL hI (by omega) G.T.nolimit (G.T.seer (by kernel_rfl))) (fun v s' hv=> ?_) (fun _ _ h=>h.elim)
 obtain⟨rfl,h1,h2,h3⟩:=hv
 refine GoodW.toG ⟨.inl ⟨_,_,_,rfl,fun _=>rfl,.bool true,postW_of (X:=true) (by first|rfl|(unfold WShape.has;rfl)|(simp [WShape.has,OpenLaw.row,PySem.Challenge.rw_nm0161_01])) (by first|rfl|wtm_val) rfl,fun _=>⟨List.nodup_nil,fun _ h=>nomatch h⟩⟩,h1,h2,h3⟩
section
noncomputable abbrev cJ(w:b3)(s:ai):Cf:={w:=w,A:=yd,B:=s.heap,ρ:={},fr:=[],h0:=s.heap,νf:=[],ce:=default,nm:=[],L:=0,r:=42,os:=s.os}
theorem lQ{w:b3}{s:ai}(hb:Sz w s.heap)(hg:s.gens= #[])(hl:s.heap.NoLimit)(hs:s.heap.NoSeer):cP (cJ w s) [] {} s:=
 ⟨rfl,rfl,by show 301+6*42+100<1000;decide,by show 4+40*42<9000;decide,hb,hl,hs,fun _ _ e=>e,(fun _ h=>nomatch h),trivial,.none (fun _ _ e _=>nomatch e),(fun _ h=>nomatch h),(fun _ h=>nomatch h),(fun _ h=>nomatch h),(fun _ h=>nomatch h),hg,rfl⟩
def AeL(s:ai)(v:aa)(s':ai):Prop:=v= .bool true∧(∀b o,s.heap.get? b=some o→s'.heap.get? b=some o)∧s'.os=s.os∧s'.gens= #[]
set_option backward.match.sparseCases true in
theorem cK(w:b3)(s:ai)(l:Addr)(vs:List aa)(ns:List Int)(hb:Sz w s.heap)(hg:s.gens= #[])(hL:s.heap.IsList l vs.toArray)(hI:qf vs ns)(hln:ns.length≤63)(hlim:s.heap.NoLimit)(hseer:s.heap.NoSeer):
  Zh (model PySem.Challenge.pw_nm0161_01 w) yd (PySem.call (.ref 976) [.ref l]) (AeL s) (fun _ _=>False) s:=by
 have F:=cH w.params
 refine aj fun hn=> ?_
 cases F with|mk F S T=>
 generalize objOf (KF w.params) 976=o at F
 generalize fdOf (KF w.params) 976=fd at F S T
 obtain⟨q,s0,s1,s6,Xb,t1,t2,p,T⟩:=T
 have hz:vs.toArray.size≤YU:=by rw[je,hI.length];exact ao hln (by decide)
 refine hn (Ul (c:=cJ w s) (ρ':={}) (nm:=Yx) (vs:=[.d (.fn l)]) (k:=21) (r:=41) F S (lQ hb hg hlim hseer) rfl (fun _ h=>nomatch h) (.none (fun _ _ e _=>nomatch e)) (fun _ _ h=>nomatch (iy.mp h)) (.cons (DR.fn l) .nil) rfl rfl fun ce h₁ tk lm cm N ok i=> ?_)
 have out:∀{b o},s.heap.get? b=some o→b∉Uh (ce::(cJ w s).fr):=fun e q=>(ay.mp (WX (c:=cJ w s) N▸q)).elim (fun q=>Zj N.n e q.symm) fun q=>(List.not_mem_nil q).elim
 refine cI (c:=(cJ w s).deep {} [] ce Yx 41 s.heap) (r:=40) (vs:=vs.toArray) (ns:=ns) T ok rfl rfl N.iY rfl rfl i (hL.elim fun o h=>out h.1) (hL.elim fun o h=>⟨o,N.kk _ _ h.1,h.2⟩) hI hz (tW _ _ hln) fun s' k1 k2 k3=>⟨rfl,fun b o e=>k1 b o e (out e),k2,k3⟩
theorem Dw:PySem.Challenge.rw_nm0161_01.Holds:=L5 cK
end
end
end Mine
theorem PySem.Challenge.cw_nm0161_01_holds : PySem.Challenge.rw_nm0161_01.Holds :=
  Mine.Dw
