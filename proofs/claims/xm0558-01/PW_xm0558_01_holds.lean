import PyProof.Rows.All
import Wide.All
import OpenK.AllK
import Wide.FinOn
import KE.KEqDict
import KE.KSliceW
import KE.KDictSum
import KE.KPar
import KE.KSortTup
import Open.Tops
import PySem.Challenge.RW_xm0558_01
set_option genSizeOf false
set_option genInjectivity false
set_option Elab.async false
set_option linter.all false
set_option backward.match.sparseCases false
set_option bootstrap.genMatcherCode false
set_option maxRecDepth 100000
set_option maxHeartbeats 0
open Option renaming some→D,none→aa,bind_eq_some_iff→tU,bind_some→tV,map→tW,map_eq_some_iff→Cu,getD→HM,isSome_iff_exists→HN,getD_some→Ro,isSome_map→Rp,map_eq_bind→akC
open _root_ renaming Nat→H,List→I,Int→O,Bool→au,Option→aJ,if_pos→a7,congrArg→bs,if_neg→bz,decide_eq_true→cW,Array→dD,decide_eq_false→ek,of_decide_eq_true→gy,beq_iff_eq→ip,DecidableEq→kK,decide_eq_decide→kQ,if_false→kR,beq_eq_false_iff_ne→n1,beq_self_eq_true→n2,Decidable→oV,Unit→qo,not_or→qp,of_decide_eq_false→r0,or_false→t5,if_true→we,String→yR,decide_eq_true_eq→yS,Nonempty→Ct,decide_eq_true_iff→R1,decide_false→R2,decide_not→R3,decide_eq_false_iff_not→alE
open Bool renaming true→ae,false→aw,and_eq_true_iff→ei,and_false→l2,and_true→v0,false_ne_true→v1,and_eq_true→yy,eq_iff_iff→yz,not_eq_true'→yA,not_true→yB,or_eq_false_iff→yC,false_or→Ch,or_false→Ht,or_true→Hu,eq_false_iff→QO,or_eq_true→QP,or_eq_true_iff→QQ,and_self→ajE,eq_false_or_eq_true→ajF,false_and→ajG,false_eq_true→ajH,not_eq_true→ajI,not_false→ajJ,or_comm→ajK
open PySem renaming Value→al,Str→aK,Addr→aQ,Shared→bb,wpAny→bi,model→bv,Expr→bG,Heap→bP,wpAny_bind→b9,Pos→c3,Obj→db,wpAny_pure→dE,Around→ea,Params→eb,Env→e6,wpAny_mono→e7,eval→gn,Stmt→gV,DictEntry→g8,Program→g9,OsState→iM,NameKind→kM,Scope→kN,Tok→kO,sizeLine→kP,IsPart→l7,mainGlobals→l8,isTrue→nZ,starEach→n0,FuncData→ql,binaryOp→qn,World→rY,builtinsNs→rZ,Const→tY,Setting→t0,backTo→t2,wpAny_call_entry→t3,wpAny_truthy_bool→t4,Model→wc,call_meetsIn→wd,bootBuiltins→yM,getItem→yN,strKind_is→yO,wpAny_field→yP,wpAny_holding→yQ,HeapKind→Cw,arm_eval_Call_Name'→CA,wpAny_Name→CB,wpAny_assign_Name→CC,wpAny_newObj_type→CD,Builtin→HQ,Operator→H2,codeAny_mono→H3,concat_meets→H4,subscripted→H5,wpAny_pyIter_list→H6,wpAny_specialOf→H7,wpAny_standAt→H8,call→RN,callWith→RO,evalPart_none→RP,meets_dict_get_default→RQ,noFill_tuple_add→RR,seqIndex?→RS,seq_tuple_add→RT,slot_dict_getitem→RU,wpAny_Assign_Name→RV,wpAny_call→RW,wpAny_execs_nil→RX,wpAny_listPart→RY,wpAny_loadName_cell→RZ,wpAny_updateSeq→R0,Comprehension→akO,args_list_append→ak6,arm_eval_BoolOp→ak7,entry_list_append→ak8,eqIsQuiet_byValue→ak9,getMethod_builtin→ala,meets_dict_get→alb,slot_list_append→alc,slot_list_getitem→ald,slot_list_setitem→ale,strKind→alf,wpAny_Constant_int→alg,wpAny_Delete→alh,wpAny_UnaryOp→ali,wpAny_allTrue_And_cons→alj,wpAny_allTrue_Or_cons→alk,wpAny_assignInOrder_more→alm,wpAny_callSpecial?_slot→aln,wpAny_delItem_slot→alo,wpAny_deleteEach_cons→alp,wpAny_deleteEach_nil→alq,wpAny_forIn_list→alr,wpAny_getItem_of→als,wpAny_isTrue_BoolOp→alt,wpAny_loadName_local→alu,wpAny_loadPart→alv,wpAny_loadPart'→alw,wpAny_notIn_of→alx,wpAny_sequenceKey→aly,wpAny_setItem_pairs→alz,wpAny_storeName_local→alA,wpAny_tests_nil→alB,wpAny_truthy_list→alC,wpAny_typeOf→alD
open Option.some renaming inj→bD,injEq→amR
open Nat renaming le_add_right→cn,le_trans→cp,lt_of_le_of_lt→c9,le_refl→dm,le_succ→eJ,lt_trans→fN,le_of_eq→gb,lt_of_lt_of_le→gm,zero_add→g7,ne_of_lt→hI,add_assoc→jK,add_right_comm→jL,le_of_lt→kf,zero_le→kL,add_comm→l6,not_lt→mT,lt_succ_of_lt→nY,le_of_lt_succ→o0,not_le→o1,sub_self→o2,add_le_add_left→qg,lt_of_succ_lt→qh,lt_or_ge→qi,add_le_add_right→rU,lt_succ_self→rV,ne_of_gt→rW,add_sub_cancel_left→tT,lt_irrefl→v7,le_add_left→yH,not_lt_zero→yI,succ_le_succ→yJ,le_one_iff_eq_zero_or_eq_one→Cr,le_succ_of_le→Cs,le_of_not_lt→HI,lt_of_le_of_ne→HJ,lt_trichotomy→HK,ble→Rh,lt_of_not_le→Ri,lt_succ_iff_lt_or_eq→Rj,mod_lt→Rk,mul_le_mul_left→Rl,sub_eq_zero_of_le→Rm,succ→Rn,add_le_add→ake,add_lt_add→akf,add_right_cancel→akg,add_sub_cancel'→akh,eq_of_beq_eq_true→aki,le_of_succ_le_succ→akk,lt_add_of_pos_right→akl,lt_of_lt_of_eq→akm,lt_of_succ_lt_succ→akn,min_eq_left→ako,min_self→akp,mul_assoc→akq,mul_succ→akr,not_succ_le_zero→aks,pow_lt_pow_right→akt,pow_pos→aku,sub_le_of_le_add→akv,sub_lt_sub_left→akw,sub_sub_self→akx,sub_zero→aky,succ_lt_succ→akz,succ_ne_self→akA,succ_pos→akB
open List renaming forall_mem_cons→cK,mem_cons→dj,mem_map→dk,mem_singleton→dt,length_map→d5,map_cons→eI,append_nil→fi,getElem?_eq_some_iff→fj,length_append→fw,range→gl,getElem?_eq_getElem→hG,nodup_cons→hH,append_assoc→hR,mem_of_getElem?→im,map_map→iK,getElem?_append_left→jJ,all_eq_true→ke,getElem?_append_right→lq,mem_append→l4,pairwise_cons→l5,any_eq_true→mR,lookup_cons→mS,getElem?_set_ne→nW,not_mem_nil→nX,any_map→oX,getElem?_eq_none→oY,map_append→oZ,length_cons→qd,mem_range→qe,nil_append→qf,getElem?_map→rR,getElem?_set_self→rS,mem_map_of_mem→rT,length_set→tR,mem_append_left→tS,all_map→v4,find?_cons→v5,set_append_right→v6,mem_iff_getElem?→yE,not_mem_cons_of_ne_of_not_mem→yF,replicate→yG,any_cons→Ck,getD→Cm,getElem_mem→Cn,isEmpty_iff→Co,nodup_append→Cp,set_set→Cq,all_cons→HA,filter_cons→HB,length→HC,map→HE,map_nil→HG,mem_filter→HH,any_eq_false→QZ,eq_nil_of_length_eq_zero→Q0,ext_getElem?→Q1,filter_cons_of_neg→Q2,filter_cons_of_pos→Q3,filter_map→Q4,find?_some→Q5,getElem?_cons_succ→Q6,idxOf_eq_length→Q7,length_eq_zero_iff→Q8,length_filter_le→Q9,length_nil→Ra,length_range→Rb,lookup_cons_self→Rc,map_inj_right→Rd,mem_append_right→Re,mem_of_find?_eq_some→Rf,pairwise_singleton→Rg,dropLast_concat→ajQ,filter→ajR,filter_nil→ajS,find?_cons_of_neg→ajT,find?_cons_of_pos→ajU,find?_eq_none→ajV,flatMap_cons→ajW,foldl_cons→ajX,getElem_idxOf→ajY,getElem_singleton→ajZ,getLast?_concat→aj0,idxOf_append→aj1,idxOf_lt_length_of_mem→aj2,length_drop→aj3,map_congr_left→aj4,map_eq_nil_iff→aj5,map_id→aj6,map_id'→aj7,set_append_left→aj8,sublist_append_left→aj9,sum_cons→aka,take_append_drop→akb,take_length→akc,zipIdx_cons→akd
open List.cons renaming inj→ej
open Int renaming ofNat_lt→fv,natCast_nonneg→kd,ofNat→l3,le_refl→n4,ofNat_le→oW,not_le→tQ,le_trans→v2,lt_trans→v3,le_of_lt→yD,not_lt→Ci,toNat_natCast→Cj,lt_irrefl→Hz,add_le_add_left→QS,eq_ofNat_of_zero_le→QT,le_add_of_nonneg_right→QU,ne_of_gt→QV,toNat_of_nonneg→QW,zero_add→QX,lt_succ→ajL,mul_one→ajM,ne_of_lt→ajN,negSucc_lt_zero→ajO
open Int.ofNat renaming inj→fM
open PySem.Heap renaming get?_push_of_some→hJ,get?_push_size→iL,lt_size→o4,SameBut→wb,size_push→yK,get?_update_self→HV,get?→akW
open PySem.Str renaming ofString→hS
open PyProof.Rows renaming IsTup→ji,tail_any→tX,Subscript_→HO,slot_tuple_getitem→HP,Compare_chain→akD,delete_Subscript→akE,isTrue_chain→akF,slicePart_none→akG
open Array renaming mk→kc,getElem?_toList→n3,length_toList→Cg,any_toList→Hr,getElem?_eq_getElem→Hs,toList_push→QN,forIn_toList→ajC,getElem?_eq_some_iff→ajD
open PySem.Builtin renaming bitNot→o3,bitAnd→Rv,bitOr→akK
open Prod.mk renaming inj→qj
open PySem.F renaming slot_dict_get→qk,entry_dict_get→wa,args_dict_get_3→HT,slot_tuple_hash→HU,args_dict_get_2→Rw,args_tuple_add_2→Rx,entry_tuple_add→Ry,plainAttrs_dict→Rz,plainAttrs_list→RA,slot_tuple_add→RB,type_dict_get→RC,slot_dict_delitem→akP,slot_list_delitem→akQ,slot_list_extend→akR,slot_list_pop→akS
open PySem.Obj renaming mapSeq→qm,putName→HZ,data_mapDictKeys→akX
open PySem.W renaming WData→rX,Looks→yL,SharedT→Cz,lookIn_dict→RJ,piece_app→RK,plainGet_of→RL,segRun_of→RM,looks_findIn→ak2,readsAllW_cons_inv→ak3,readsAllW_nil_inv→ak4
open PySem.PyData renaming keyHash→tZ
open PySem.Heap.SameBut renaming update→Cv
open PySem.NameKind renaming free→Cx,cell→RD
open PySem.W.Looks renaming of_pure→Cy
open Eq renaming refl→Hv
open ForInStep renaming yield→Hw
open Iff renaming rfl→Hx,trans→Hy
open Nat.succ renaming inj→HL
open PySem.Builtin.Slice renaming slicePlaces→HR,sliceAdjust→akH,sliceApplied→akI,sliceFields→amY,slicePartIndex→amZ
open PySem.Builtin.Tuple renaming tupleExact→HS,tupleItemsOf→Ru,tupleHashOf→akJ
open PySem.Keeper renaming boundFrame→HW,frame→HX,machine→HY
open And renaming left→QL,right→QM
open Decidable renaming not_not→QR
open List.Sublist renaming refl→QY
open PySem.Builtin.Dict renaming takeOut→Rq,dictSlotArgs→amW
open PySem.Builtin.List renaming listSubscript?→Rr,listTooLong→Rt
open PySem.Value renaming int→RE,none→RF,ref→RG,isInt_shape→akY,isStrOf_shape→akZ,str→ak0
open PySem.W.WTm renaming holds→RH,value→RI
open List.Nodup renaming sublist→ajP
open Nat.le renaming dest→akj
open PySem.Calls renaming Name_function_global→akL
open PySem.Challenge renaming pw_xm0558_01→akM
open PySem.Code renaming builtin→akN
open PySem.Heap.DictOf renaming new→akT
open PySem.Heap.IsSliceOf renaming new→akU
open PySem.Heap.PlainList renaming isList→akV
open PySem.W.WShape renaming hasAll→ak1
open PySem.Walks renaming list→ak5
open List.Pairwise renaming map→amL,nil→amM
open List.Perm renaming cons→amN,eq_of_pairwise→amO,mem_iff→amP,swap→amQ
open PySem.AutoSeq1 renaming sub_list_list→amS,sub_list_tuple→amT,sub_tuple_list→amU,sub_tuple_tuple→amV
open PySem.Builtin.Range renaming rangeSize→amX
open PySem.Data.dict renaming inj→am0
open PySem.DictEntry renaming refKey→am1
open PySem.FuncBody.stmts renaming inj→am2
open PySem.Heap.DictOfH renaming new→am3
open PySem.MeetsSeq renaming list_pop_last→am4
open PySem.Operator renaming Add→am5,Sub→am6
open PySem.Value.ref renaming inj→am7
open PySem.Value.str renaming inj→am8
open PySem.pyHashByItsType renaming reduced→am9
namespace KK
open PySem PySem.W PyProof.Rows
set_option genInjectivity true in
inductive V where
 |none|bool (b:au)|int (i:O)|str (s:aK)|ab (vs:I V)|lst (vs:I V)|obj (n:H)
noncomputable def V.bool?:V->aJ (au)
 |.bool x=>some x
 |.none|.int _|.str _|.ab _|.lst _|.obj _=>aa
noncomputable def V.int?:V->aJ (O)
 |.int x=>some x
 |.none|.bool _|.str _|.ab _|.lst _|.obj _=>aa
noncomputable def V.ye:V->aJ (aK)
 |.str x=>some x
 |.none|.bool _|.int _|.ab _|.lst _|.obj _=>aa
noncomputable def V.p9:V->aJ (I V)
 |.ab x=>some x
 |.none|.bool _|.int _|.str _|.lst _|.obj _=>aa
noncomputable def V.xF:V->aJ (I V)
 |.lst x=>some x
 |.none|.bool _|.int _|.str _|.ab _|.obj _=>aa
noncomputable def V.NR:V->aJ (H)
 |.obj x=>some x
 |.none|.bool _|.int _|.str _|.ab _|.lst _=>aa
noncomputable def V.isNone:V->au
 |.none=>true
 |.bool _|.int _|.str _|.ab _|.lst _|.obj _=>false
mutual
noncomputable def V.beq:V->V->au
 |.none,b=>b.isNone
 |.bool a,b=>b.bool?.any fun b=>a==b
 |.int a,b=>b.int?.any fun b=>a==b
 |.str a,b=>b.ye.any fun b=>a==b
 |.ab a,b=>b.p9.any fun b=>V.wG a b
 |.lst a,b=>b.xF.any fun b=>V.wG a b
 |.obj a,b=>b.NR.any fun b=>a==b
noncomputable def V.wG:I V->I V->au
 |[],b=>b.isEmpty
 |a::as,b=>match b with
  |[]=>false
  |b::av=>V.beq a b && V.wG as av
end
theorem uf{α:Type}{o:aJ α}{p:α->au}(h:o.any p=ae):∃x,o=D x/\p x=ae:=by
 cases o with
 |none=>exact nomatch (show aw=ae from h)
 |some x=>exact⟨x,rfl,h⟩
theorem V.kx{x:V}{i:O}(e:x.int?=some i):x= .int i:=by cases x <;>first|exact nomatch (show aa=some i from e)|exact bs V.int (bD e)
theorem V.BP{x:V}{i:aK}(e:x.ye=some i):x= .str i:=by cases x <;>first|exact nomatch (show aa=some i from e)|exact bs V.str (bD e)
theorem V.Jz{x:V}{i:au}(e:x.bool?=some i):x= .bool i:=by cases x <;>first|exact nomatch (show aa=some i from e)|exact bs V.bool (bD e)
theorem V.rI{x:V}{i:I V}(e:x.p9=some i):x= .ab i:=by cases x <;>first|exact nomatch (show aa=some i from e)|exact bs V.ab (bD e)
theorem V.AX{x:V}{i:I V}(e:x.xF=some i):x= .lst i:=by cases x <;>first|exact nomatch (show aa=some i from e)|exact bs V.lst (bD e)
theorem V.adE{x:V}{i:H}(e:x.NR=some i):x= .obj i:=by cases x <;>first|exact nomatch (show aa=some i from e)|exact bs V.obj (bD e)
mutual
theorem V.Js:∀a b:V,V.beq a b=true->a=b
 |.none,b,h=>by cases b <;>first|rfl|exact nomatch (show false=true from h)
 |.bool a,b,h=>let⟨c,e,q⟩:=uf h;(V.Jz e).symm▸bs V.bool (ip.mp q)
 |.int a,b,h=>let⟨c,e,q⟩:=uf h;(V.kx e).symm▸bs V.int (ip.mp q)
 |.str a,b,h=>let⟨c,e,q⟩:=uf h;(V.BP e).symm▸bs V.str (ip.mp q)
 |.ab a,b,h=>let⟨c,e,q⟩:=uf h;(V.rI e).symm▸bs V.ab (V.Ds a c q)
 |.lst a,b,h=>let⟨c,e,q⟩:=uf h;(V.AX e).symm▸bs V.lst (V.Ds a c q)
 |.obj a,b,h=>let⟨c,e,q⟩:=uf h;(V.adE e).symm▸bs V.obj (ip.mp q)
theorem V.Ds:∀a b:I V,V.wG a b=true->a=b
 |[],b,h=>(Co.mp h).symm
 |a::as,b,h=>by
  cases b with
  |nil=>exact nomatch (show false=true from h)
  |cons b av=>
   obtain⟨ag,ah⟩:=ei.mp h
   rw[V.Js a b ag,V.Ds as av ah]
end
mutual
theorem V.Jr:∀a:V,V.beq a a=true
 |.none=>rfl
 |.bool a=>n2 a
 |.int a=>n2 a
 |.str a=>n2 a
 |.ab a=>V.Dr a
 |.lst a=>V.Dr a
 |.obj a=>n2 a
theorem V.Dr:∀a:I V,V.wG a a=true
 |[]=>rfl
 |a::as=>ei.mpr ⟨V.Jr a,V.Dr as⟩
end
noncomputable instance:kK V:=fun a b=>if h:V.beq a b=ae then .isTrue (V.Js a b h)else .isFalse fun e=>h (e▸V.Jr a)
noncomputable def V.gS:H->V->au
 |_,.int _=>true
 |_,.str _=>true
 |d+1,.ab vs=>vs.all (V.gS d)
 |_,_=>false
noncomputable def V.pure(v:V):au:=v.gS 5
noncomputable def V.fS(vs:I V):au:=vs.all (V.gS 4)
noncomputable def V.isInt:V->au|.int _=>true|_=>false
noncomputable def V.isStr:V->au|.str _=>true|_=>false
noncomputable def V.isTup:V->au|.ab _=>true|_=>false
inductive gp where|i|s|t
noncomputable def gp.ok:gp->V->au
 |.i,v=>v.isInt
 |.s,v=>v.isStr
 |.t,v=>v.isTup && v.pure
inductive Cell where
 |list (vs:I V)|dict (k:gp) (kvs:I (V×V))|inst (c:H) (fs:I (H×V))
noncomputable abbrev St:=I Cell
noncomputable abbrev Loc:=I (aJ V)
inductive mW where|add|sub|fdiv|mod|pow|band|bor
inductive n6 where|eq|ne|lt|le|gt|ge|is|AE|mem|kB
section
set_option genCtorIdx false
set_option genSizeOf false
set_option genInjectivity false
inductive E where
 |lit (v:V)|aq (i:H)|aV (g:H)|bad
 |ab (es:I E)|lst (es:I E)|hC (es:I E)|iD (k:gp)
 |bin (o:mW) (a b:E)|neg (a:E)|not (a:E)|ay (o:n6) (a b:E)|jo (o p:n6) (a b c:E)
 |and (es:I E)|or (es:I E)|ite (c a b:E)
 |attr (e:E) (a:H)|sub (e i:E)|slice (e:E) (lo hi:aJ E)
 |call (f:H) (as:I E)|new (c:H) (as:I E)|b6 (o:E) (m:H) (as:I E)
 |len (e:E)|tuple (e:E)|sorted (e:E)|all (e:E)|any (e:E)
 |append (o x:E)|extend (o x:E)|pop (o:E)|qW (o k:E)|qX (o k d:E)
 |comp (x:E) (i:H) (rng:au) (it:E) (c:aJ E)|m8 (i j:H)|pB (g:H) (k d:E)
inductive S where
 |set (i:H) (e:E)|rz (i:H) (e:E)|mN (i j:H) (e:E)|cT (o:E) (a:H) (e:E)|fG (o i e:E)
 |n7 (o:E) (a:H) (p:mW) (e:E)|ret (e:E)|iff (c:E) (a b:I S)
 |for (i:H) (rng:au) (it:E) (b:I S)
 |while (n:H) (c:E) (b:I S)|expr (e:E)|mo (o k:E)|qQ (o lo:E)|cont|bad
end
inductive ev where|next|brk|cont|ret (v:V)
noncomputable def c2(J:Loc)(i:H):aJ V:=match J[i]? with|some x=>x|none=>aa
noncomputable def ra:I V->aJ (I O)
 |[]=>D []
 |.int i::r=>(ra r).bind fun l=>D (i::l)
 |_=>aa
noncomputable def k2(x:O):I O->I O
 |[]=> [x]
 |y::r=>if x<=y then x::y::r else y::k2 x r
noncomputable def f7:I O->I O
 |[]=> []
 |x::r=>k2 x (f7 r)
noncomputable def cx(kvs:I (V×V))(k:V):aJ V:=match kvs with
 |[]=>aa
 |(a,v)::r=>if a=k then D v else cx r k
noncomputable def mE(kvs:I (V×V))(k:V):au:=(cx kvs k).isSome
noncomputable def dI(kvs:I (V×V))(k v:V):I (V×V):=match kvs with
 |[]=> [(k,v)]
 |(a,u)::r=>if a=k then(a,v)::r else(a,u)::dI r k v
noncomputable def lH(kvs:I (V×V))(k:V):I (V×V):=match kvs with
 |[]=> []
 |(a,u)::r=>if a=k then r else(a,u)::lH r k
noncomputable def mr(fs:I (H×V))(a:H):aJ V:=match fs with
 |[]=>aa
 |(b,v)::r=>if b=a then D v else mr r a
noncomputable def jU(fs:I (H×V))(a:H)(v:V):I (H×V):=match fs with
 |[]=> [(a,v)]
 |(b,u)::r=>if b=a then(b,v)::r else(b,u)::jU r a v
section
set_option genSizeOf false
set_option genInjectivity false
structure b7 where
 dflt:I V
 bU:H
 cm:H
 body:I S
structure c4 where
 fn:H->aJ b7
 aV:H->aJ V
 b6:H->H->aJ H
 init:H->aJ (aJ H)
 fld:H->H->au
 lD:H->I (O×O)
end
noncomputable abbrev Cl:=H->I V->St->aJ (V×St)
noncomputable def a4:H:=1000000
noncomputable def Cell.DP:Cell->aJ (I (V×V))
 |.dict .s l=>some l
 |.dict .i _|.dict .t _|.list _|.inst _ _=>none
noncomputable def Cell.DQ:Cell->aJ (I (V×V))
 |.dict .t l=>some l
 |.dict .i _|.dict .s _|.list _|.inst _ _=>none
noncomputable def Cell.kA:Cell->aJ (I V)
 |.list l=>some l
 |.dict _ _|.inst _ _=>none
noncomputable def St.kA(σ:St):V->aJ (I V)
 |.ab vs=>D vs
 |.lst vs=>D vs
 |.obj n=>σ[n]?.bind Cell.kA
 |.none|.bool _|.int _|.str _=>aa
noncomputable def Fz(vs:I V):aJ au:=if vs.length<=a4 then D (!vs.isEmpty)else aa
noncomputable def eh(σ:St):V->aJ au
 |.bool b=>D b
 |.none=>D aw
 |.ab vs=>Fz vs
 |.lst vs=>Fz vs
 |.obj n=>(σ[n]?.bind Cell.kA).bind Fz
 |.int _|.str _=>aa
noncomputable def zW(a b:I V):aJ au:=if V.fS a && V.fS b then D (decide (a=b))else aa
noncomputable def D1(x y:aJ Cell):aJ au:=
 match(x.bind Cell.DP).bind fun a=>(y.bind Cell.DP).bind fun b=>if b.isEmpty then D a.isEmpty else aa with
 |some r=>D r
 |none=>(x.bind Cell.DQ).bind fun a=>(y.bind Cell.DQ).bind fun b=>if a.isEmpty && b.isEmpty then D ae else aa
noncomputable def nT(σ:St)(x y:V):aJ au:=match x with
 |.bool a=>y.bool?.bind fun b=>D (a==b)
 |.int a=>y.int?.bind fun b=>D (decide (a=b))
 |.str a=>y.ye.bind fun b=>D (decide (a=b))
 |.ab a=>y.p9.bind fun b=>zW a b
 |.lst a=>y.xF.bind fun b=>zW a b
 |.obj n=>match y with
  |.lst b=>(σ[n]?.bind Cell.kA).bind fun a=>zW a b
  |.obj m=>D1 σ[n]? σ[m]?
  |.none|.bool _|.int _|.str _|.ab _=>aa
 |.none=>aa
noncomputable def vR(x:V)(vs:I V):aJ au:=if x.pure && V.fS vs then D (decide (x∈vs))else aa
noncomputable def tK(σ:St)(x:V):V->aJ au
 |.ab vs=>vR x vs
 |.lst vs=>vR x vs
 |.obj n=>σ[n]?.bind fun c=>match c with
  |.dict k kvs=>if k.ok x then D (mE kvs x)else aa
  |.list vs=>vR x vs
  |.inst _ _=>aa
 |.none|.bool _|.int _|.str _=>aa
noncomputable def yf(a b:aK):au:= !(decide (b.cps.toList < a.cps.toList))
noncomputable def rD(a b:aK):au:=decide (a.cps.toList < b.cps.toList)
noncomputable def m4{α:Type}(x y:V)(f:O->O->aJ α):aJ α:=x.int?.bind fun a=>y.int?.bind fun b=>f a b
noncomputable def ab5(x y:V):aJ au:=match x with
 |.int a=>y.int?.bind fun b=>D (decide (a<=b))
 |.str a=>y.ye.bind fun b=>D (yf a b)
 |.none|.bool _|.ab _|.lst _|.obj _=>aa
noncomputable def dF(σ:St)(o:n6)(x y:V):aJ au:=match o with
 |.eq=>nT σ x y
 |.ne=>(nT σ x y).map (!·)
 |.lt=>m4 x y fun a b=>D (decide (a < b))
 |.le=>ab5 x y
 |.gt=>m4 x y fun a b=>D (decide (b < a))
 |.ge=>m4 x y fun a b=>D (decide (b<=a))
 |.is=>if y.isNone then D x.isNone else aa
 |.AE=>if y.isNone then D (!x.isNone)else aa
 |.mem=>tK σ x y
 |.kB=>(tK σ x y).map (!·)
noncomputable def Tw(x y:V):aJ V:=match x with
 |.int a=>y.int?.bind fun b=>D (.int (a+b))
 |.ab a=>y.p9.bind fun b=>if a.length+b.length<=a4 then D (.ab (a++b))else aa
 |.lst a=>y.xF.bind fun b=>if a.length+b.length<=a4 then D (.lst (a++b))else aa
 |.none|.bool _|.str _|.obj _=>aa
noncomputable def hM(o:mW)(x y:V):aJ V:=match o with
 |.add=>Tw x y
 |.sub=>m4 x y fun a b=>D (.int (a - b))
 |.fdiv=>m4 x y fun a b=>if 0 < b/\b < 1000000 then D (.int (a / b))else aa
 |.mod=>m4 x y fun a b=>if 0 < b then D (.int (a % b))else aa
 |.pow=>m4 x y fun a b=>if a=2/\0<=b/\b < 10 then D (.int (2 ^ b.toNat))else aa
 |.band=>m4 x y fun a b=>if 0<=a/\0<=b then D (.int ((a.toNat &&& b.toNat:H):O))else aa
 |.bor=>m4 x y fun a b=>if 0<=a/\0<=b then D (.int ((a.toNat|||b.toNat:H):O))else aa
noncomputable def q9{α:Type}(l:I α)(i:O):aJ α:=
 if i < a4 then if 0<=i then l[i.toNat]? else if -100<=i/\0<=i+l.length then l[(i+l.length).toNat]? else aa else aa
noncomputable def ix(v:aJ O)(n:H):H:=match v with
 |none=>0
 |some x=>if x < 0 then n - (-x).toNat else min x.toNat n
noncomputable def mn(v:aJ O)(n:H):H:=match v with
 |none=>n
 |some x=>if x < 0 then n - (-x).toNat else min x.toNat n
noncomputable def cut{α:Type}(l:I α)(lo hi:aJ O):I α:=(l.drop (ix lo l.length)).take (mn hi l.length - ix lo l.length)
noncomputable def B6(vs:I V)(k:V):aJ V:=k.int?.bind fun i=>if 0<=i/\i < a4 then vs[i.toNat]? else aa
noncomputable def ee(σ:St)(o k:V):aJ V:=match o with
 |.obj n=>σ[n]?.bind fun c=>match c with
  |.list vs=>B6 vs k
  |.dict aW kvs=>if aW.ok k then cx kvs k else aa
  |.inst _ _=>aa
 |.ab vs=>k.int?.bind fun i=>q9 vs i
 |.str s=>k.int?.bind fun i=>if i=0 then(s.cps[0]?).map fun c=> .str ⟨#[c]⟩else aa
 |.lst vs=>B6 vs k
 |.none|.bool _|.int _=>aa
noncomputable def DN(lo hi:aJ O)(vs:I V):aJ V:=if vs.length<=a4 then D (.lst (cut vs lo hi))else aa
noncomputable def of(σ:St)(o:V)(lo hi:aJ O):aJ V:=match o with
 |.ab vs=>if vs.length<=a4/\(cut vs lo hi).length < vs.length then D (.ab (cut vs lo hi))else aa
 |.lst vs=>DN lo hi vs
 |.obj n=>(σ[n]?.bind Cell.kA).bind (DN lo hi)
 |.none|.bool _|.int _|.str _=>aa
noncomputable def wV(σ:St)(v:V):aJ V:=(σ.kA v).bind fun vs=>if vs.length<=a4 then D (.int vs.length)else aa
noncomputable def hc:I V->aJ (I au)
 |[]=>D []
 |.bool b::r=>(hc r).bind fun l=>D (b::l)
 |_=>aa
noncomputable def Fp(v:V):aJ aK:=v.p9.bind fun l=>match l with|[]=>aa|x::_=>x.ye
noncomputable def Qg(l:I V):aJ (V×V):=match l with|[]=>aa|x::r=>match r with|[]=>aa|y::r=>match r with|[]=>D (x,y)|_::_=>aa
noncomputable def yc(v:V):aJ V:=v.xF.bind fun l=>(Qg l).bind fun p=>(Fp p.1).bind fun a=>(Fp p.2).bind fun b=>
 if a=b then aa else if rD b a then D (.lst [p.2,p.1])else D (.lst [p.1,p.2])
noncomputable def sq(σ:St):V->aJ V
 |.obj n=>match σ[n]? with
  |some (.dict .i kvs)=>(ra (kvs.map (·.1))).bind fun l=>if l.length < 64 then D (.lst ((f7 l).map .int))else aa
  |_=>aa
 |_=>aa
noncomputable def dd(σ:St):V->aJ (I V)
 |.ab vs=>D vs
 |.lst vs=>D vs
 |.str s=>D (s.cps.toList.map fun c=> .str ⟨#[c]⟩)
 |.obj n=>σ[n]?.bind Cell.kA
 |.none|.bool _|.int _=>aa
noncomputable def re(σ:St):V->au
 |.obj n=>match σ[n]? with|some (.list _)=>ae|_=>aw
 |_=>aw
noncomputable def rc(σ:St):V->au
 |.obj n=>match σ[n]? with|some (.dict _ _)=>ae|_=>aw
 |_=>aw
noncomputable def ii:V->aJ (I V)
 |.int n=>if 0<=n/\n<=100 then D ((gl n.toNat).map fun(i:H)=> .int i)else aa
 |_=>aa
noncomputable def eQ(σ:St):V->St->au
 |.obj n,aF=>match σ[n]?,aF[n]? with|some (.list a),D (.list b)=>decide (a=b)|_,_=>aw
 |_,_=>ae
noncomputable def gH(d:H)(ck:V->St->aJ (au×St))(f:V->St->aJ (V×St))(live:St->au):I V->St->aJ St
 |[],σ=>if live σ then D σ else aa
 |v::vs,σ=>if live σ then(ck v σ).bind fun(b,σ)=>match b with
   |true=>(f v σ).bind fun(x,σ)=>match σ[d]? with
    |some (.list cb)=>if cb.length < a4 then gH d ck f live vs (σ.set d (.list (cb++ [x])))else aa
    |_=>aa
   |false=>gH d ck f live vs σ
  else aa
noncomputable def rH(j:H):I V->aJ (I V)
 |[]=>D []
 |.ab us::r=>(us[j]?).bind fun u=>(rH j r).bind fun l=>D (u::l)
 |_=>aa
noncomputable def lJ(σ:St):V->aJ (I V)
 |.lst vs=>D vs
 |.obj n=>σ[n]?.bind Cell.kA
 |.none|.bool _|.int _|.str _|.ab _=>aa
section
variable (P:c4)(C:Cl)
mutual
noncomputable def aG:E->Loc->St->aJ (V×St)
 |.lit v,_,σ=>D (v,σ)
 |.aq i,J,σ=>(c2 J i).bind fun v=>D (v,σ)
 |.aV g,_,σ=>(P.aV g).bind fun v=>D (v,σ)
 |.bad,_,_=>aa
 |.ab es,J,σ=>(e3 es J σ).bind fun(vs,σ)=>D (.ab vs,σ)
 |.lst es,J,σ=>(e3 es J σ).bind fun(vs,σ)=>D (.lst vs,σ)
 |.hC es,J,σ=>(e3 es J σ).bind fun(vs,σ)=>D (.obj σ.length,σ++ [.list vs])
 |.iD k,_,σ=>D (.obj σ.length,σ++ [.dict k []])
 |.bin o a b,J,σ=>(aG a J σ).bind fun(x,σ)=>(aG b J σ).bind fun(y,σ)=>(hM o x y).bind fun z=>D (z,σ)
 |.neg a,J,σ=>(aG a J σ).bind fun(x,σ)=>match x with|.int i=>D (.int (-i),σ)|_=>aa
 |.not a,J,σ=>(aG a J σ).bind fun(x,σ)=>(eh σ x).bind fun b=>D (.bool (!b),σ)
 |.ay o a b,J,σ=>(aG a J σ).bind fun(x,σ)=>(aG b J σ).bind fun(y,σ)=>(dF σ o x y).bind fun z=>D (.bool z,σ)
 |.jo o p a b c,J,σ=>(aG a J σ).bind fun(x,σ)=>(aG b J σ).bind fun(y,σ)=>(dF σ o x y).bind fun z=>match z with
   |false=>D (.bool aw,σ)
   |true=>(aG c J σ).bind fun(u,σ)=>(dF σ p y u).bind fun z=>D (.bool z,σ)
 |.and es,J,σ=>wU es J σ
 |.or es,J,σ=>wW es J σ
 |.ite c a b,J,σ=>(aG c J σ).bind fun(x,σ)=>(eh σ x).bind fun t=>match t with|true=>aG a J σ|false=>aG b J σ
 |.attr e a,J,σ=>(aG e J σ).bind fun(x,σ)=>match x with
   |.obj n=>match σ[n]? with|some (.inst _ fs)=>(mr fs a).bind fun v=>D (v,σ)|_=>aa
   |_=>aa
 |.sub e i,J,σ=>(aG e J σ).bind fun(x,σ)=>(aG i J σ).bind fun(y,σ)=>(ee σ x y).bind fun v=>D (v,σ)
 |.slice e lo hi,J,σ=>(aG e J σ).bind fun(x,σ)=>(uA lo J σ).bind fun(a,σ)=>(uA hi J σ).bind fun(b,σ)=>(of σ x a b).bind fun v=>D (v,σ)
 |.call f as,J,σ=>(e3 as J σ).bind fun(vs,σ)=>C f vs σ
 |.new c as,J,σ=>(e3 as J σ).bind fun(vs,σ)=>match P.init c with
   |some aa=>match vs with|[]=>D (.obj σ.length,σ++ [.inst c []])|_=>aa
   |some (D f)=>(C f (.obj σ.length::vs) (σ++ [.inst c []])).bind fun(r,aF)=>match r with|.none=>D (.obj σ.length,aF)|_=>aa
   |none=>aa
 |.b6 o m as,J,σ=>(aG o J σ).bind fun(x,σ)=>match x with
   |.obj n=>match σ[n]? with
    |some (.inst c _)=>match P.b6 c m with
     |some f=>(e3 as J σ).bind fun(vs,σ)=>C f (x::vs) σ
     |none=>aa
    |_=>aa
   |_=>aa
 |.len e,J,σ=>(aG e J σ).bind fun(x,σ)=>(wV σ x).bind fun v=>D (v,σ)
 |.tuple e,J,σ=>(aG e J σ).bind fun(x,σ)=>(lJ σ x).bind fun vs=>if vs.length<=a4 then D (.ab vs,σ)else aa
 |.sorted e,J,σ=>(aG e J σ).bind fun(x,σ)=>(sq σ x).bind fun v=>D (v,σ)
 |.all e,J,σ=>(aG e J σ).bind fun(x,σ)=>(lJ σ x).bind fun vs=>(hc vs).bind fun av=>D (.bool (av.all id),σ)
 |.any e,J,σ=>(aG e J σ).bind fun(x,σ)=>(lJ σ x).bind fun vs=>(hc vs).bind fun av=>D (.bool (av.any id),σ)
 |.append o x,J,σ=>(aG o J σ).bind fun(y,σ)=>if !re σ y then aa else(aG x J σ).bind fun(v,σ)=>match y with
   |.obj n=>match σ[n]? with|some (.list vs)=>if vs.length < a4 then D (.none,σ.set n (.list (vs++ [v])))else aa|_=>aa
   |_=>aa
 |.extend o x,J,σ=>(aG o J σ).bind fun(y,σ)=>if !re σ y then aa else(aG x J σ).bind fun(v,σ)=>match y,v with
   |.obj n,.ab us=>match σ[n]? with|some (.list vs)=>if vs.length+us.length < a4 then D (.none,σ.set n (.list (vs++us)))else aa|_=>aa
   |_,_=>aa
 |.pop o,J,σ=>(aG o J σ).bind fun(y,σ)=>match y with
   |.obj n=>match σ[n]? with
    |some (.list vs)=>if vs.length<=a4 then match vs.getLast? with|some v=>D (v,σ.set n (.list vs.dropLast))|none=>aa else aa
    |_=>aa
   |_=>aa
 |.qW o k,J,σ=>(aG o J σ).bind fun(y,σ)=>if !rc σ y then aa else(aG k J σ).bind fun(k,σ)=>match y with
   |.obj n=>match σ[n]? with|some (.dict aW kvs)=>if aW.ok k then D ((cx kvs k).getD .none,σ)else aa|_=>aa
   |_=>aa
 |.qX o k d,J,σ=>(aG o J σ).bind fun(y,σ)=>if !rc σ y then aa else(aG k J σ).bind fun(k,σ)=>(aG d J σ).bind fun(d,σ)=>match y with
   |.obj n=>match σ[n]? with|some (.dict aW kvs)=>if aW.ok k then D ((cx kvs k).getD d,σ)else aa|_=>aa
   |_=>aa
 |.comp x i rng it c,J,σ=>(aG it J σ).bind fun(y,σ)=>(if rng then ii y else dd σ y).bind fun vs=>(gH σ.length (fun v aF=>gC c (J.set i (D v)) aF) (fun v aF=>aG x (J.set i (D v)) aF) (eQ σ y) vs (σ++ [.list []])).bind fun aF=>D (.obj σ.length,aF)
 |.pB g k d,J,σ=>(aG k J σ).bind fun(x,σ)=>(aG d J σ).bind fun(y,σ)=>match x with
   |.int i=>if(P.lD g).isEmpty then aa else D (match(P.lD g).lookup i with|some j=> .int j|none=>y,σ)
   |_=>aa
 |.m8 i j,J,σ=>(c2 J i).bind fun v=>match v with
   |.obj n=>match σ[n]? with
    |some (.dict .s kvs)=>(rH j (kvs.map (·.2))).bind fun vs=>if vs.length<=a4/\(hc vs).isSome=ae then D (.obj σ.length,σ++ [.list vs])else aa
    |_=>aa
   |_=>aa
noncomputable def e3:I E->Loc->St->aJ (I V×St)
 |[],_,σ=>D ([],σ)
 |e::es,J,σ=>(aG e J σ).bind fun(v,σ)=>(e3 es J σ).bind fun(vs,σ)=>D (v::vs,σ)
noncomputable def uA:aJ E->Loc->St->aJ (aJ O×St)
 |none,_,σ=>D (aa,σ)
 |some e,J,σ=>(aG e J σ).bind fun(v,σ)=>match v with|.int i=>D (D i,σ)|_=>aa
noncomputable def gC:aJ E->Loc->St->aJ (au×St)
 |none,_,σ=>D (ae,σ)
 |some e,J,σ=>(aG e J σ).bind fun(v,σ)=>(eh σ v).bind fun b=>D (b,σ)
noncomputable def wU:I E->Loc->St->aJ (V×St)
 |[],_,_=>aa
 |[e],J,σ=>aG e J σ
 |e::es,J,σ=>(aG e J σ).bind fun(v,σ)=>(eh σ v).bind fun b=>match b with|true=>wU es J σ|false=>D (v,σ)
noncomputable def wW:I E->Loc->St->aJ (V×St)
 |[],_,_=>aa
 |[e],J,σ=>aG e J σ
 |e::es,J,σ=>(aG e J σ).bind fun(v,σ)=>(eh σ v).bind fun b=>match b with|true=>D (v,σ)|false=>wW es J σ
end
noncomputable abbrev Rs:=aJ (ev×Loc×St)
noncomputable def h8(live:St->au)(i:H)(b:Loc->St->Rs):I V->Loc->St->Rs
 |[],J,σ=>if live σ then D (.next,J,σ)else aa
 |v::vs,J,σ=>if live σ then(b (J.set i (D v)) σ).bind fun(f,J,σ)=>match f with
   |.next|.cont=>h8 live i b vs J σ
   |.brk=>D (.next,J,σ)
   |.ret v=>D (.ret v,J,σ)
  else aa
noncomputable def l0(c:Loc->St->aJ (au×St))(b:Loc->St->Rs):H->Loc->St->Rs
 |0,_,_=>aa
 |n+1,J,σ=>(c J σ).bind fun(t,σ)=>match t with
   |false=>D (.next,J,σ)
   |true=>(b J σ).bind fun(f,J,σ)=>match f with
    |.next|.cont=>l0 c b n J σ
    |.brk=>D (.next,J,σ)
    |.ret v=>D (.ret v,J,σ)
mutual
noncomputable def gI:S->Loc->St->Rs
 |.set i e,J,σ=>(aG P C e J σ).bind fun(v,σ)=>D (.next,J.set i (D v),σ)
 |.mN i j e,J,σ=>(aG P C e J σ).bind fun(v,σ)=>match v with|.ab [a,b]=>D (.next,(J.set i (D a)).set j (D b),σ)|_=>aa
 |.cT o a e,J,σ=>(aG P C e J σ).bind fun(v,σ)=>(aG P C o J σ).bind fun(x,σ)=>match x with
   |.obj n=>match σ[n]? with|some (.inst c fs)=>if P.fld c a && decide (fs.length < 100)then D (.next,J,σ.set n (.inst c (jU fs a v)))else aa|_=>aa
   |_=>aa
 |.fG o i e,J,σ=>(aG P C e J σ).bind fun(v,σ)=>(aG P C o J σ).bind fun(x,σ)=>(aG P C i J σ).bind fun(k,σ)=>match x with
   |.obj n=>match σ[n]? with
    |some (.dict aW kvs)=>if aW.ok k && decide (kvs.length < a4)then D (.next,J,σ.set n (.dict aW (dI kvs k v)))else aa
    |some (.list vs)=>match k with|.int j=>if 0<=j/\j < vs.length/\vs.length<=a4 then D (.next,J,σ.set n (.list (vs.set j.toNat v)))else aa|_=>aa
    |_=>aa
   |_=>aa
 |.n7 o a p e,J,σ=>(aG P C o J σ).bind fun(x,σ)=>match x with
   |.obj n=>match σ[n]? with
    |some (.inst _ fs)=>(mr fs a).bind fun u=>(aG P C e J σ).bind fun(v,σ)=>(hM p u v).bind fun z=>match z,σ[n]? with
     |.int z,D (.inst c fs)=>if P.fld c a && decide (fs.length < 100)then D (.next,J,σ.set n (.inst c (jU fs a (.int z))))else aa
     |_,_=>aa
    |_=>aa
   |_=>aa
 |.ret e,J,σ=>(aG P C e J σ).bind fun(v,σ)=>D (.ret v,J,σ)
 |.iff c a b,J,σ=>(aG P C c J σ).bind fun(v,σ)=>(eh σ v).bind fun t=>match t with|true=>cQ a J σ|false=>cQ b J σ
 |.for i rng it b,J,σ=>(aG P C it J σ).bind fun(y,σ)=>(if rng then ii y else dd σ y).bind fun vs=>h8 (eQ σ y) i (fun J σ=>cQ b J σ) vs J σ
 |.rz i e,J,σ=>(aG P C e J σ).bind fun(v,σ)=>(yc v).bind fun v=>D (.next,J.set i (D v),σ)
 |.while n c b,J,σ=>l0 (fun J σ=>(aG P C c J σ).bind fun(v,σ)=>(eh σ v).bind fun t=>D (t,σ)) (fun J σ=>cQ b J σ) n J σ
 |.expr e,J,σ=>(aG P C e J σ).bind fun(v,σ)=>match v with|.none=>D (.next,J,σ)|.bool _=>D (.next,J,σ)|.int _=>D (.next,J,σ)|_=>aa
 |.mo o k,J,σ=>(aG P C o J σ).bind fun(x,σ)=>(aG P C k J σ).bind fun(k,σ)=>match x with
   |.obj n=>match σ[n]? with|some (.dict .t kvs)=>if gp.t.ok k && mE kvs k && decide (kvs.length<=a4)then D (.next,J,σ.set n (.dict .t (lH kvs k)))else aa|_=>aa
   |_=>aa
 |.qQ o lo,J,σ=>(aG P C o J σ).bind fun(x,σ)=>(aG P C lo J σ).bind fun(k,σ)=>match x,k with
   |.obj n,.int i=>match σ[n]? with|some (.list vs)=>if 0<=i/\vs.length<=a4 then D (.next,J,σ.set n (.list (vs.take i.toNat)))else aa|_=>aa
   |_,_=>aa
 |.cont,J,σ=>D (.cont,J,σ)
 |.bad,_,_=>aa
noncomputable def cQ:I S->Loc->St->Rs
 |[],J,σ=>D (.next,J,σ)
 |s::g6,J,σ=>(gI s J σ).bind fun(f,J,σ)=>match f with|.next=>cQ g6 J σ|f=>D (f,J,σ)
end
end
noncomputable def enter(f:b7)(vs:I V):aJ Loc:=
 if vs.length<=f.bU/\f.bU<=vs.length+f.dflt.length then
  let all:=vs++f.dflt.drop (f.dflt.length - (f.bU - vs.length))
  D (all.map D++yG (f.cm - f.bU) aa)
 else aa
noncomputable def az(P:c4):H->Cl
 |0,_,_,_=>aa
 |n+1,f,vs,σ=>(P.fn f).bind fun F=>(enter F vs).bind fun J=>(cQ P (az P n) F.body J σ).bind fun(fl,_,σ)=>match fl with
   |.ret v=>D (v,σ)
   |.next=>D (.none,σ)
   |_=>aa
theorem br{α dg:Type}{o:aJ α}{f:α->aJ dg}{b:dg}{G:Prop}(e:o.bind f=D b)(h:∀a,o=D a->f a=D b->G):G:=let⟨a,q,r⟩:=tU.mp e;h a q r
theorem nq{α:Type}{c:Prop}[oV c]{x:aJ α}{z:α}(e:(if c then x else aa)=D z):c/\x=D z:=by
 by_cases q:c
 ·exact⟨q,(a7 q).symm.trans e⟩
 ·exact(nomatch (bz q).symm.trans e)
theorem VZ{α:Type}{x y:V}{f:O->O->aJ α}{z:α}{G:Prop}(h:m4 x y f=D z)(k:∀a b,x= .int a->y= .int b->f a b=D z->G):G:=br h fun a ag h=>br h fun b ah h=>k a b (V.kx ag) (V.kx ah) h
noncomputable abbrev cu:=I (aQ×aQ)
noncomputable def foot(U:cu)(a:aQ):Prop:=∃p∈U,a=p.1\/a=p.2
mutual
noncomputable def aU(U:cu)(h:bP):V->al->Prop
 |.none,v=>v= .none
 |.bool b,v=>v= .bool b
 |.int i,v=>∃t,v= .int i t
 |.str s,v=>∃t,v= .str s t
 |.ab vs,v=>∃a aS,v= .ref a/\ji h a aS/\¬foot U a/\bK U h vs aS.toList
 |.lst vs,v=>∃a aS,v= .ref a/\h.IsList a aS/\¬foot U a/\bK U h vs aS.toList
 |.obj n,v=>∃p,U[n]?=D p/\v= .ref p.1
noncomputable def bK(U:cu)(h:bP):I V->I al->Prop
 |[],l=>l=[]
 |v::vs,l=>∃x xs,l=x::xs/\aU U h v x/\bK U h vs xs
end
theorem iZ{h:bP}{a:aQ}(aI:h.objs.size<=a):h.get? a=aa:=by
 cases e:h.get? a with
 |none=>rfl
 |some o=>exact absurd (o4 e) (mT.mpr aI)
structure Step(U bj:cu)(own:I aQ)(h aD:bP):Prop where
 ext:∃e,bj=U++e/\∀p∈e,h.get? p.1=aa/\h.get? p.2=aa
 keep:∀a o,h.get? a=D o->¬foot U a->a∉own->aD.get? a=D o
 live:∀a o,h.get? a=D o->∃dp,aD.get? a=D dp
theorem Ee{U e:cu}{a:aQ}:foot (U++e) a↔foot U a\/foot e a:=by
 simp[foot,or_and_right,exists_or]
theorem Step.dead{U bj own}{h aD:bP}(S:Step U bj own h aD){a:aQ}(aI:aD.get? a=aa):h.get? a=aa:=by
 cases e:h.get? a with
 |none=>rfl
 |some o=>obtain⟨dp,cH⟩:=S.live a o e;rw[aI]at cH;cases cH
theorem Step.fq{U bj own}{h aD:bP}(S:Step U bj own h aD){a:aQ}{o:db}(aI:h.get? a=D o)(bH:¬foot U a):¬foot bj a:=by
 obtain⟨e,rfl,he⟩:=S.ext
 rw[Ee]
 rintro (q|⟨p,ao,q⟩)
 ·exact bH q
 ·have k:=he p ao
  rcases q with rfl|rfl
  ·rw[k.1]at aI;cases aI
  ·rw[k.2]at aI;cases aI
theorem Step.refl(U:cu)(own:I aQ)(h:bP):Step U U own h h:=⟨⟨[],by simp,by simp⟩,fun _ _ e _ _=>e,fun _ o e=>⟨o,e⟩⟩
theorem Step.trans{U bm cC own}{h jZ kv:bP}(S:Step U bm own h jZ)(T:Step bm cC own jZ kv):Step U cC own h kv:=by
 refine⟨?_,fun a o e bH aR=>T.keep a o (S.keep a o e bH aR) (S.fq e bH) aR,fun a o e=>let⟨dp,cH⟩:=S.live a o e;T.live a dp cH⟩
 obtain⟨e,rfl,he⟩:=S.ext
 obtain⟨f,rfl,bH⟩:=T.ext
 refine⟨e++f,by simp,fun p ao=> ?_⟩
 rcases l4.mp ao with q|q
 ·exact he p q
 ·have:=bH p q
  exact⟨S.dead this.1,S.dead this.2⟩
theorem Step.own{U bj own xV}{h aD:bP}(S:Step U bj own h aD)(aR:∀a∈own,a∈xV\/h.get? a=aa):Step U bj xV h aD:=⟨S.ext,fun a o e bH aZ=>S.keep a o e bH fun q=>(aR a q).elim aZ (fun z=>by rw[z]at e;cases e),S.live⟩
theorem Step.get{U bj own}{h aD:bP}(S:Step U bj own h aD){n:H}{p:aQ×aQ}(e:U[n]?=D p):bj[n]?=D p:=by
 obtain⟨x,rfl,_⟩:=S.ext
 rw[jJ];exact e
 exact(fj.mp e).1
noncomputable def ha(h:bP)(a:aQ):Prop:=∀o aS n,h.get? a=D o->o.data≠ .seq aS n
structure Move(U bj:cu)(own:I aQ)(h aD:bP):Prop where
 ext:∃e,bj=U++e/\∀p∈e,h.get? p.1=aa/\h.get? p.2=aa
 keep:∀a o,h.get? a=D o->¬foot U a->a∉own->aD.get? a=D o
theorem Step.d8{U bj own}{h aD:bP}(S:Step U bj own h aD):Move U bj own h aD:=⟨S.ext,S.keep⟩
theorem Move.fq{U bj own}{h aD:bP}(S:Move U bj own h aD){a:aQ}{o:db}(aI:h.get? a=D o)(bH:¬foot U a):¬foot bj a:=by
 obtain⟨e,rfl,he⟩:=S.ext
 rw[Ee]
 rintro (q|⟨p,ao,q⟩)
 ·exact bH q
 ·have k:=he p ao
  rcases q with rfl|rfl
  ·rw[k.1]at aI;cases aI
  ·rw[k.2]at aI;cases aI
theorem Move.get{U bj own}{h aD:bP}(S:Move U bj own h aD){n:H}{p:aQ×aQ}(e:U[n]?=D p):bj[n]?=D p:=by
 obtain⟨x,rfl,_⟩:=S.ext
 rw[jJ];exact e
 exact(fj.mp e).1
mutual
theorem aU.d8{U bj own}{h aD:bP}(S:Move U bj own h aD)(nk:∀a∈own,ha h a):∀ {v:V} {x:al},aU U h v x->aU bj aD v x
 |.none,_,e=>e
 |.bool _,_,e=>e
 |.int _,_,e=>e
 |.str _,_,e=>e
 |.ab vs,x,e=>by
  obtain⟨a,aS,rfl,⟨o,aR,aE,n,hd⟩,bH,r⟩:=e
  exact⟨a,aS,rfl,⟨o,S.keep a o aR bH fun q=>nk a q o _ _ aR hd,aE,n,hd⟩,S.fq aR bH,bK.d8 S nk r⟩
 |.lst vs,x,e=>by
  obtain⟨a,aS,rfl,⟨o,aR,aE,n,hd⟩,bH,r⟩:=e
  exact⟨a,aS,rfl,⟨o,S.keep a o aR bH fun q=>nk a q o _ _ aR hd,aE,n,hd⟩,S.fq aR bH,bK.d8 S nk r⟩
 |.obj n,x,e=>by
  obtain⟨p,ao,rfl⟩:=e
  exact⟨p,S.get ao,rfl⟩
theorem bK.d8{U bj own}{h aD:bP}(S:Move U bj own h aD)(nk:∀a∈own,ha h a):∀ {vs:I V} {xs:I al},bK U h vs xs->bK bj aD vs xs
 |[],_,e=>e
 |v::vs,xs,e=>by
  obtain⟨x,xs,rfl,a,b⟩:=e
  exact⟨x,xs,rfl,aU.d8 S nk a,bK.d8 S nk b⟩
end
theorem aU.step{U bj own}{h aD:bP}(S:Step U bj own h aD)(nk:∀a∈own,ha h a){v:V}{x:al}(r:aU U h v x):aU bj aD v x:=aU.d8 S.d8 nk r
theorem bK.step{U bj own}{h aD:bP}(S:Step U bj own h aD)(nk:∀a∈own,ha h a){vs:I V}{xs:I al}(r:bK U h vs xs):bK bj aD vs xs:=bK.d8 S.d8 nk r
theorem bK.length{U h}:∀ {vs:I V} {xs:I al},bK U h vs xs->xs.length=vs.length
 |[],_,e=>by subst e;rfl
 |v::vs,xs,e=>by
  obtain⟨x,xs,rfl,_,b⟩:=e
  simp[bK.length b]
theorem bK.get{U h}:∀ {vs:I V} {xs:I al},bK U h vs xs->∀ {i:H} {v:V},vs[i]?=D v->∃x,xs[i]?=D x/\aU U h v x
 |[],_,_,i,v,e=>by simp at e
 |v::vs,xs,r,i,u,e=>by
  obtain⟨x,xs,rfl,a,b⟩:=r
  cases i with
  |zero=>simp at e;subst e;exact⟨x,rfl,a⟩
  |succ i=>exact bK.get b (by simpa using e)
theorem bK.append{U h}:∀ {vs us:I V} {xs d4:I al},bK U h vs xs->bK U h us d4->bK U h (vs++us) (xs++d4)
 |[],us,_,d4,e,r=>by subst e;exact r
 |v::vs,us,_,d4,e,r=>by
  obtain⟨x,xs,rfl,a,b⟩:=e
  exact⟨x,xs++d4,rfl,a,bK.append b r⟩
theorem bK.drop{U h}:∀ {vs:I V} {xs:I al} (n:H),bK U h vs xs->bK U h (vs.drop n) (xs.drop n)
 |[],_,n,e=>by subst e;simp[bK]
 |v::vs,_,0,e=>by simpa using e
 |v::vs,_,n+1,e=>by
  obtain⟨x,xs,rfl,a,b⟩:=e
  simpa using bK.drop n b
theorem bK.take{U h}:∀ {vs:I V} {xs:I al} (n:H),bK U h vs xs->bK U h (vs.take n) (xs.take n)
 |[],_,n,e=>by subst e;simp[bK]
 |v::vs,_,0,e=>by simp[bK]
 |v::vs,_,n+1,e=>by
  obtain⟨x,xs,rfl,a,b⟩:=e
  exact⟨x,xs.take n,rfl,a,bK.take n b⟩
theorem bK.set{U h}:∀ {vs:I V} {xs:I al} {n:H} {v:V} {x:al},bK U h vs xs->aU U h v x->bK U h (vs.set n v) (xs.set n x)
 |[],_,n,v,x,e,_=>by subst e;simp[bK]
 |v::vs,_,0,u,y,e,r=>by
  obtain⟨x,xs,rfl,a,b⟩:=e
  exact⟨y,xs,rfl,r,b⟩
 |v::vs,_,n+1,u,y,e,r=>by
  obtain⟨x,xs,rfl,a,b⟩:=e
  exact⟨x,xs.set n y,rfl,a,bK.set b r⟩
inductive eS(h:bP):H->V->al->Prop
 |int {d i t}:eS h d (.int i) (.int i t)
 |str {d i t}:eS h d (.str i) (.str i t)
 |ab {d vs a aS} (aP:ji h a aS) (aj:aS.size=vs.length) (r:∀(i:H) (x:V) (y:al),vs[i]?=D x->aS[i]?=D y->eS h d x y):eS h (d+1) (.ab vs) (.ref a)
theorem bK.all{U h}{Q:V->al->Prop}{vs:I V}{xs:I al}(r:bK U h vs xs)(q:∀v∈vs,∀x,aU U h v x->Q v x)(i:H)(v x)(aT:vs[i]?=D v)(aX:xs[i]?=D x):Q v x:=by
 obtain⟨y,e,w⟩:=r.get aT
 obtain rfl:y=x:=bD (e.symm.trans aX)
 exact q v (im aT) _ w
theorem aU.pr{U h}:∀(d:H) {v:V} {x:al},aU U h v x->v.gS d=ae->eS h d v x:=fun d=>by
 induction d with
 |zero=>
  intro v x e p
  cases v with
  |int i=>obtain⟨t,rfl⟩:=e;exact .int
  |str i=>obtain⟨t,rfl⟩:=e;exact .str
  |none|bool _|ab _|lst _|obj _=>exact nomatch (show aw=ae from p)
 |succ d bh=>
  intro v x e p
  cases v with
  |int i=>obtain⟨t,rfl⟩:=e;exact .int
  |str i=>obtain⟨t,rfl⟩:=e;exact .str
  |ab vs=>
   obtain⟨a,aS,rfl,aP,_,r⟩:=e
   exact .ab aP r.length fun i v y aT aX=>r.all (Q:=eS h d) (fun v aH x aA=>bh aA (ke.mp p v aH)) i v y aT (by rw[n3];exact aX)
  |none|bool _|lst _|obj _=>exact nomatch (show aw=ae from p)
theorem eS.keeps{h aD:bP}(am:∀a o aS n,h.get? a=D o->o.data= .seq aS n->aD.get? a=D o):∀(d:H) {v:V} {x:al},eS h d v x->eS aD d v x:=fun d v x e=>by
 induction e with
 |int=>exact .int
 |str=>exact .str
 |ab aP aj r bh=>exact .ab (let⟨o,aR,aE,n,hd⟩:=aP;⟨o,am _ o _ _ aR hd,aE,n,hd⟩) aj bh
theorem abk{h:bP}{a:aQ}{x y:dD al}(aA:ji h a x)(bo:ji h a y):x=y:=by
 obtain⟨o,aR,_,n,hd⟩:=aA
 obtain⟨dp,jY,_,fe,gK⟩:=bo
 rw[aR]at jY;cases jY
 rw[hd]at gK;cases gK;rfl
theorem eS.L6{h:bP}{d jS:H}{v u:V}{x:al}(a:eS h d v x):eS h jS u x->v=u:=by
 induction a generalizing u jS with
 |int=>intro b;cases b;rfl
 |str=>intro b;cases b;rfl
 |@ab _ vs a aS aP aj r bh=>
  intro b
  cases b with
  |ab EX ku f3=>
   cases abk aP EX
   refine bs V.ab (Q1 fun i=> ?_)
   cases e:aS[i]? with
   |none=>
    have q:=Array.getElem?_eq_none_iff.mp e
    rw[oY (aj▸q),oY (ku▸q)]
   |some y=>
    have q:=(ajD.mp e).1
    rw[hG (aj▸q),hG (ku▸q)]
    exact bs D (bh i _ y (hG _) e (f3 i _ y (hG _) e))
theorem eS.inj{h:bP}(d:H){v u:V}{x:al}(a:eS h d v x)(b:eS h d u x):v=u:=a.L6 b
theorem eS.up{h:bP}(d:H){v:V}{x:al}(a:eS h d v x)(k:H):eS h (d+k) v x:=by
 induction a with
 |int=>exact .int
 |str=>exact .str
 |ab aP aj r bh=>rw[Nat.succ_add];exact .ab aP aj bh
section
open PySem.SeqAt
noncomputable def q0(w:World):H->V->O
 |_,.int i=>hashInt i
 |_,.str s=>hashStr w s
 |d+1,.ab vs=>reduceHash (akJ (vs.map (q0 w d)))
 |_,_=>0
noncomputable def pp:H->V->H
 |d+1,.ab vs=>(vs.map (pp d)).sum+1
 |_,_=>1
theorem ais{M:wc}{A:ea}{E:al->bb->Prop}{s:bb}{a:aQ}{aS:dD al}{Q:dD al->bb->Prop}(aP:ji s.heap a aS)(h:Q aS s):bi M A (Ru (.ref a)) Q E s:=by
 obtain⟨o,aR,_,n,hd⟩:=aP
 exact wpAny_tupleItemsOf aR hd h
theorem ZP{w:World}{d:H}{i:O}:q0 w d (.int i)=hashInt i:=by cases d <;>rfl
theorem ZQ{w:World}{d:H}{i:aK}:q0 w d (.str i)=hashStr w i:=by cases d <;>rfl
theorem W0{d:H}{i:O}:pp d (.int i)=1:=by cases d <;>rfl
theorem W1{d:H}{i:aK}:pp d (.str i)=1:=by cases d <;>rfl
noncomputable def Ii(prog:g9)(w:World)(ao:bP)(d:H)(v:V)(x:al):Prop:=∀ {A:ea} {E:al->bb->Prop} {s:bb} {Q:O->bb->Prop},s.heap=ao->A.units+d < cLine->
  Q (q0 w d v) {s with toks:=s.toks+pp d v}->bi (bv prog w) A (pyHash x) Q E s
structure CQ(prog:g9)(w:World)(h:bP)(d T:H)(L:I O)(s:bb)(left:I V)(rest:I al)(b:I O)(bc:bb)(t:H):Prop where
 all:∀(i:H) (x:V) (y:al),left[i]?=D x->rest[i]?=D y->Ii prog w h d x y
 len:rest.length=left.length
 out:b++left.map (q0 w d)=L
 is:bc= {s with toks:=t}
 sum:t+(left.map (pp d)).sum=T
theorem CQ.fin{prog:g9}{w:World}{h:bP}{d T:H}{L:I O}{s bc:bb}{left:I V}{b:I O}{t:H}(bB:CQ prog w h d T L s left [] b bc t):b=L/\bc= {s with toks:=T}:=by
 cases left with
 |nil=>exact⟨(fi b).symm.trans bB.out,bB.sum▸bB.is⟩
 |cons=>exact nomatch bB.len
theorem ZT{prog:g9}{w:World}{A:ea}{E:al->bb->Prop}{s:bb}{Q:O->bb->Prop}{z:O}(h:Q (reduceHash z) s):bi (bv prog w) A (am9 z) Q E s:=by
 unfold reduceHash at h
 show bi _ _ (if(decide (-(2:O) ^ 63<=z) && decide (z < 2 ^ 63))=ae then _ else _) Q E _
 by_cases bg:(decide (-(2:O) ^ 63<=z) && decide (z < 2 ^ 63))=ae
 ·rw[a7 bg]
  rw[a7 bg]at h
  exact dE h
 ·rw[bz bg]
  rw[bz bg]at h
  exact b9 (wpAny_rule (dE h))
theorem ZS{prog:g9}{w:World}{ao:bP}{d:H}{v:V}{x:al}(p:eS ao d v x):Ii prog w ao d v x:=by
 induction p with
 |int=>
  intro A E s Q e cd h
  rw[ZP,W0]at h
  exact wpAny_pyHash_int h
 |str=>
  intro A E s Q e cd h
  rw[ZQ,W1]at h
  exact wpAny_pyHash_str h
 |@ab d vs a aS aP aj r bh=>
  intro A E s Q e cd h
  subst e
  have fa:s.TypeIs (.ref a) "tuple" :=let⟨o,aR,aE,_⟩:=aP;⟨o,aR,aE⟩
  unfold pyHash
  unfold pyHashByItsType
  refine b9 (wpAny_cRoomFor_or (.inr (c9 (cn _ _) cd)) ?_)
  refine b9 (H7 fa HU.lookup ?_)
  show bi _ _ (if(D (Value.builtin "tuple.__hash__")==D RF)=ae then _ else _) Q E s
  rw[bz (by rw[beq_builtin_none];exact v1)]
  refine b9 (H7 fa HU.lookup ?_)
  show bi _ _ (callSpecialIfBoundUnlessNone? (.ref a) "__hash__" _ >>=_) Q E s
  refine b9 (wpAny_callSpecialIfBoundUnlessNone?_slot fa HU (t3 HU fa F.entry_tuple_hash ?_ (F.args_tuple_hash_1 _)))
  show bi _ _ (Ru (.ref a) >>=_) _ _ s
  refine b9 (ais aP ?_)
  refine b9 ?_
  rw[<-ajC]
  refine alr _ (fun rest (b:dD O) bc=>∃left t,CQ prog w s.heap d (s.toks+(vs.map (pp d)).sum) (vs.map (q0 w d)) s left rest b.toList bc t) _ ?_ ?_ _ _
   ⟨vs,s.toks,fun i x y aT aX=>bh i x y aT (by rw[<-n3];exact aX),aj,rfl,rfl,rfl⟩
  ·rintro x rest b bc ⟨left,t,bB⟩
   cases left with
   |nil=>exact nomatch bB.len
   |cons v left=>
    refine b9 (bB.all 0 v x rfl rfl (bB.is▸rfl) (by show A.units+1+d < cLine;rw[jK,l6 1];exact cd) ?_)
    exact dE ⟨left,t+pp d v,fun i x y aT aX=>bB.all (i+1) x y aT aX,HL bB.len,by rw[QN,hR];exact bB.out,by rw[bB.is],by rw[jK];exact bB.sum⟩
  ·rintro b bc ⟨left,t,bB⟩
   obtain⟨aT,aX⟩:=bB.fin
   subst aX
   show bi _ _ (retInt (akJ b.toList)) _ _ _
   rw[aT]
   exact wpAny_ret_mkInt (ZT h)
theorem Fw{α:Type}[kK α](vs us:I α):((gl (min vs.length us.length)).all (fun j=>decide (vs[j]?=us[j]?)) && vs.length==us.length)=decide (vs=us):=by
 rw[yz]
 simp only[yy,ke,qe,yS,ip]
 constructor
 ·rintro ⟨ag,ah⟩
  apply Q1
  intro j
  by_cases cg:j < vs.length
  ·exact ag j (by omega)
  ·rw[oY (by omega),oY (by omega)]
 ·rintro rfl
  exact⟨fun _ _=>rfl,rfl⟩
theorem mA{h:bP}{a:aQ}{aS:dD al}(aP:ji h a aS):h.IsTuple a aS:=aP
theorem od{A:ea}{s:bb}{x y:al}{b:au}{v u:V}(h:EqAt A s x y b)(e:b=decide (v=u)):EqAt A s x y (decide (v=u)):=e▸h
theorem J7{α:Type}[kK α]{i j:α}{v u:V}(h:i=j↔v=u):(i==j)=decide (v=u):=(kQ.mpr h:decide (i=j)=_)
theorem uo{v u:V}(h:v≠u):aw=decide (v=u):=(ek h).symm
theorem Xn{ao:bP}{d:H}{v:V}{x:al}(p:eS ao d v x):∀ {jS:H} {A:ea} {s:bb} {u:V} {y:al},s.heap=ao->A.units+d < cLine->eS ao jS u y->EqAt A s x y (decide (v=u)):=by
 induction p with
 |@int d i t=>
  intro jS A s u y e cd q
  have ag:A.units < cLine:=c9 (cn _ _) cd
  cases q with
  |@int jS j eF=>exact od (EqAt.int_int i t j eF) (J7 ⟨bs V.int,V.int.inj⟩)
  |str=>exact od (EqAt.int_str i t _ _) (uo V.noConfusion)
  |ab aP=>exact od (EqAt.int_tuple i t (mA (e▸aP)) ag) (uo V.noConfusion)
 |@str d i t=>
  intro jS A s u y e cd q
  have ag:A.units < cLine:=c9 (cn _ _) cd
  cases q with
  |int=>exact od (EqAt.str_int i t _ _) (uo V.noConfusion)
  |@str jS j eF=>exact od (EqAt.str_str i t j eF) (J7 ⟨bs V.str,V.str.inj⟩)
  |ab aP=>exact od (EqAt.str_tuple i t (mA (e▸aP)) ag) (uo V.noConfusion)
 |@ab d vs a aS aP aj r bh=>
  intro jS A s u y e cd q
  subst e
  have ag:A.units < cLine:=c9 (cn _ _) cd
  have ig:=q
  cases q with
  |int=>exact od (EqAt.tuple_int _ _ (mA aP) ag) (uo V.noConfusion)
  |str=>exact od (EqAt.tuple_str _ _ (mA aP) ag) (uo V.noConfusion)
  |@ab jS us b jts EX ku f3=>
   by_cases Lq:a=b
   ·subst Lq
    exact od (EqAt.same (.ref a)) (cW ((eS.ab aP aj r).L6 ig)).symm
   ·have:=RcAt.tuples (A:=A) (e:=fun j=>decide (vs[j]?=us[j]?)) (mA aP) (mA EX) ag fun j ag ah=>by
     have cL:j < vs.length:=aj▸ag
     have ci:j < us.length:=ku▸ah
     have:=bh j vs[j] aS[j] (hG cL) (Hs ag) (A:=A.in1) rfl (by show A.units+1+d < cLine;rw[jK,l6 1];exact cd) (f3 j us[j] jts[j] (hG ci) (Hs ah))
     rw[hG cL,hG ci]
     exact(kQ.mpr ⟨bs D,bD⟩:decide (vs[j]=us[j])=decide (D vs[j]=D us[j]))▸this
    rw[aj,ku,Fw]at this
    exact od (EqAt.of_refs Lq this) (kQ.mpr ⟨bs V.ab,V.ab.inj⟩)
theorem D3(d:H){jS:H}{A:ea}{s:bb}{v u:V}{x y:al}(cd:A.units+d < cLine)(p:eS s.heap d v x)(q:eS s.heap jS u y):EqAt A s x y (decide (v=u)):=Xn p rfl cd q
theorem aeV{prog:g9}{w:World}{s:bb}{d:H}{v:V}{x:al}(p:eS s.heap d v x):∀ {k:H} {A:ea} {E:al->bb->Prop} {Q:au->bb->Prop},d<=k->Q ae s->bi (bv prog w) A (eqIsQuiet k x) Q E s:=by
 induction p with
 |int=>intro k A E Q _ h;rw[ak9 _ rfl];exact dE h
 |str=>intro k A E Q _ h;rw[ak9 _ rfl];exact dE h
 |@ab d vs a aS aP aj r bh=>
  intro k A E Q am h
  cases k with
  |zero=>exact absurd am (aks d)
  |succ k=>
   have fa:s.TypeIs (.ref a) "tuple" :=let⟨o,aR,aE,_⟩:=aP;⟨o,aR,aE⟩
   obtain⟨o,aR,aE,n,hd⟩:=aP
   unfold eqIsQuiet
   refine b9 (H7 fa F.slot_tuple_eq.lookup ?_)
   show bi _ _ (isInstance (.ref a) (.type "tuple") >>=_) _ _ s
   refine b9 (wpAny_isInstance fa isSubtype_tuple_tuple ?_)
   simp only[yB,ajH,kR]
   refine b9 (wpAny_seqItems aR hd ?_)
   refine b9 ?_
   show bi _ _ (forIn aS _ _) _ _ s
   rw[<-ajC]
   refine alr _ (fun rest r bc=>r.1=aa/\bc=s/\∀y∈rest,∀ {A:ea} {E:al->bb->Prop} {Q:au->bb->Prop},Q ae s->bi (bv prog w) A (eqIsQuiet k y) Q E s) _ ?_ ?_ _ _ ⟨rfl,rfl,fun y bo=> ?_⟩
   ·rintro y rest r bc ⟨bg,rfl,ol⟩
    refine b9 (ol y (.head _) ?_)
    simp only[yB,ajH,kR]
    exact dE ⟨rfl,rfl,fun u EY=>ol u (.tail _ EY)⟩
   ·rintro ⟨dR,dq⟩ bc ⟨bg,rfl,_⟩
    simp only at bg
    subst bg
    exact dE h
   ·obtain⟨i,hi⟩:=yE.mp bo
    have ag:i < aS.size:=(fj.mp hi).1
    exact fun{A E Q}=>bh i vs[i] y (hG (aj▸ag)) ((n3).symm.trans hi) (akk am)
theorem ZR{prog:g9}{w:World}(d:H){A:ea}{E:al->bb->Prop}{s:bb}{v:V}{x:al}{Q:O->bb->Prop}(cd:A.units+d < cLine)(p:eS s.heap d v x)
  (h:Q (q0 w d v) {s with toks:=s.toks+pp d v}):bi (bv prog w) A (pyHash x) Q E s:=ZS p rfl cd h
theorem aeU{prog:g9}{w:World}(d:H){k:H}{A:ea}{E:al->bb->Prop}{s:bb}{v:V}{x:al}{Q:au->bb->Prop}(am:d<=k)(p:eS s.heap d v x)(h:Q ae s):bi (bv prog w) A (eqIsQuiet k x) Q E s:=aeV p am h
noncomputable def vL(prog:g9)(w:World):Cw prog w V where
 is:=fun h k a=>eS h 5 k (.ref a)
 hash:=q0 w 5
 draws:=pp 5
 room:=fun A=>A.units+5 < cLine
 inj:=fun aA bo=>eS.inj 5 aA bo
 keeps:=fun{h aD k a d o es ep} x aR hd aY=>x.keeps (fun b dp aS n ax pF=>(aY.2 b (by
  rintro rfl
  rw[aR]at ax;cases ax
  rw[hd]at pF;cases pF)).trans ax) 5
 pyHash:=fun cd am h=>ZR 5 cd am h
 eqBool:=fun{A E s x y a b Q} cd aA bo h=>D3 5 cd aA bo prog w E Q h
 quiet:=fun am h=>aeU 5 (by decide) am h
end
structure c0 where
 prog:g9
 w:World
 nm:H->aK
 ca:H->aQ
 jr:H->aQ
 K:Frag
 h₀:bP
 iz:K.In h₀
 lC:H->aK
 m6:H->aK
 jW:H->aK
 mg:aK->aJ al
 mb:aK->aJ al
 fk:h₀.Ns l8 mg
 fX:h₀.Ns rZ mb
 nolimit:h₀.NoLimit
 FR:∀a b,a < 200->b < 200->nm a=nm b->a=b
 low:∃o,h₀.get? sysModules=D o
inductive iQ{K:Type}(mk:K->V)(U:cu)(h:bP):I (V×V)->I (K×al)->Prop
 |nil:iQ mk U h [] []
 |cons {j v x r l} (w:aU U h v x) (c:iQ mk U h r l):iQ mk U h ((mk j,v)::r) ((j,x)::l)
noncomputable abbrev pb:=iQ V.int
noncomputable abbrev jk:=iQ V.str
inductive gr(U:cu)(h:bP):I (V×V)->I (V×aQ×al)->Prop
 |nil:gr U h [] []
 |cons {k a v x r l} (p:k.pure=ae) (q:aU U h k (.ref a)) (w:aU U h v x) (c:gr U h r l):gr U h ((k,v)::r) ((k,a,x)::l)
noncomputable def pz(K:Frag)(C:aQ)(name:aK):au:=plainGet K C name && hasDictIn K C && (findIn K (.ref C) name==D aa) && (findIn K (.ref C) "__setattr__" ==D (D (.builtin "object.__setattr__"))) && plainOver K C && (takerIn K C name==D aa)
inductive hK(X:c0)(U:cu)(h:bP):I (H×V)->I g8->Prop
 |nil:hK X U h [] []
 |cons {a v r e l} (k:∃t,e.key= .str (X.nm a) t) (w:aU U h v e.val) (c:hK X U h r l):hK X U h ((a,v)::r) (e::l)
noncomputable def iP(X:c0)(U:cu)(h:bP):Cell->aQ×aQ->Prop
 |.list vs,p=>p.2=p.1/\∃aS,h.PlainList p.1 aS/\bK U h vs aS.toList
 |.dict .i kvs,p=>p.2=p.1/\∃b5,h.DictOf (intKind X.prog X.w) p.1 b5/\pb U h kvs b5
 |.dict .s kvs,p=>p.2=p.1/\∃b5,h.DictOf (strKind X.prog X.w) p.1 b5/\jk U h kvs b5
 |.dict .t kvs,p=>p.2=p.1/\∃xs,h.DictOfH (vL X.prog X.w) p.1 xs/\gr U h kvs xs
 |.inst c fs,p=>h.get? p.1=D ⟨.ref (X.ca c),D p.2,.plain, #[]⟩/\∃es n,h.get? p.2=D (dictOf es n)/\hK X U h fs es/\∀x∈fs,x.1 < 200/\pz X.K (X.ca c) (X.nm x.1)=ae
section
variable {X:c0}{U bj:cu}{own:I aQ}{h aD:bP}
theorem iQ.d8{K:Type}{mk:K->V}(S:Move U bj own h aD)(aR:∀a∈own,ha h a){r l}(c:iQ mk U h r l):iQ mk bj aD r l:=by
 induction c with
 |nil=>exact .nil
 |cons w _ bh=>exact .cons (w.d8 S aR) bh
theorem gr.d8(S:Move U bj own h aD)(aR:∀a∈own,ha h a){r l}(c:gr U h r l):gr bj aD r l:=by
 induction c with
 |nil=>exact .nil
 |cons p q w _ bh=>exact .cons p (q.d8 S aR) (w.d8 S aR) bh
theorem hK.d8(S:Move U bj own h aD)(aR:∀a∈own,ha h a){r l}(c:hK X U h r l):hK X bj aD r l:=by
 induction c with
 |nil=>exact .nil
 |cons k w _ bh=>exact .cons k (w.d8 S aR) bh
theorem gr.is{r:I (V×V)}{l:I (V×aQ×al)}(c:gr U h r l):∀x∈l,eS h 5 x.1 (.ref x.2.1):=by
 induction c with
 |nil=>exact fun x aA=>nomatch aA
 |cons p q w _ bh=>
  intro x aA
  cases aA with
  |head=>exact q.pr 5 p
  |tail _ aA=>exact bh x aA
theorem DictOf.to{prog:g9}{w:World}{K:Type}[kK K]{knd:KeyKind prog w K}{a:aQ}{b5:I (K×al)}(d:h.DictOf knd a b5)(am:∀o,h.get? a=D o->aD.get? a=D o):aD.DictOf knd a b5:=let⟨o,es,ep,q,z⟩:=d;⟨o,es,ep,am _ q,z⟩
theorem iP.d8{c:Cell}{p:aQ×aQ}(S:Move U bj own h aD)(aR:∀a∈own,ha h a)(ag:∀o,h.get? p.1=D o->aD.get? p.1=D o)(ah:∀o,h.get? p.2=D o->aD.get? p.2=D o)
  (r:iP X U h c p):iP X bj aD c p:=by
 cases c with
 |list vs=>exact⟨r.1,r.2.elim fun aS q=>⟨aS,q.1.at ag,q.2.d8 S aR⟩⟩
 |dict k kvs=>
  cases k with
  |i=>exact⟨r.1,r.2.elim fun b5 q=>⟨b5,DictOf.to q.1 ag,q.2.d8 S aR⟩⟩
  |s=>exact⟨r.1,r.2.elim fun b5 q=>⟨b5,DictOf.to q.1 ag,q.2.d8 S aR⟩⟩
  |t=>exact⟨r.1,r.2.elim fun xs q=>⟨xs,let⟨o,es,ep,ig,gx,hF,yv,vV,ajl⟩:=q.1;⟨o,es,ep,ag _ ig,gx,hF,yv,(q.2.d8 S aR).is,ajl⟩,q.2.d8 S aR⟩⟩
 |inst c fs=>exact⟨ag _ r.1,r.2.elim fun es q=>⟨es,q.elim fun n q=>⟨n,ah _ q.1,q.2.1.d8 S aR,q.2.2⟩⟩⟩
theorem iP.move{c:Cell}{p:aQ×aQ}(S:Step U bj own h aD)(aR:∀a∈own,ha h a)(ag:∀o,h.get? p.1=D o->aD.get? p.1=D o)(ah:∀o,h.get? p.2=D o->aD.get? p.2=D o)
  (r:iP X U h c p):iP X bj aD c p:=r.d8 S.d8 aR ag ah
theorem iP.live{c:Cell}{p:aQ×aQ}(r:iP X U h c p):(∃o,h.get? p.1=D o)/\∃o,h.get? p.2=D o:=by
 have two:∀ {q:Prop},p.2=p.1->(∃o,h.get? p.1=D o)->(∃o,h.get? p.1=D o)/\∃o,h.get? p.2=D o:=fun e q=>⟨q,e▸q⟩
 cases c with
 |list vs=>exact two (q:=True) r.1 (r.2.elim fun aS q=>q.1.elim fun n l=>⟨_,l⟩)
 |dict k kvs=>
  cases k with
  |i=>exact two (q:=True) r.1 (r.2.elim fun aS q=>let⟨o,_,_,e,_⟩:=q.1;⟨o,e⟩)
  |s=>exact two (q:=True) r.1 (r.2.elim fun aS q=>let⟨o,_,_,e,_⟩:=q.1;⟨o,e⟩)
  |t=>exact two (q:=True) r.1 (r.2.elim fun aS q=>let⟨o,_,_,e,_⟩:=q.1;⟨o,e⟩)
 |inst c fs=>exact⟨⟨_,r.1⟩,r.2.elim fun es q=>q.elim fun n q=>⟨_,q.1⟩⟩
structure bX(X:c0)(U:cu)(σ:St)(h:bP):Prop where
 len:U.length=σ.length
 cells:∀(i:H) (c:Cell) (p:aQ×aQ),σ[i]?=D c->U[i]?=D p->iP X U h c p
 apart:∀(i j:H) (p q:aQ×aQ),U[i]?=D p->U[j]?=D q->i≠j->p.1≠q.1/\p.1≠q.2/\p.2≠q.1/\p.2≠q.2
 above:∀p∈U,X.h₀.get? p.1=aa/\X.h₀.get? p.2=aa
 top:∀a o,X.h₀.get? a=D o->h.get? a=D o
variable {σ:St}
theorem bX.live(R:bX X U σ h){a:aQ}(bH:foot U a):∃o,h.get? a=D o:=by
 obtain⟨p,ao,q⟩:=bH
 obtain⟨n,aZ⟩:=yE.mp ao
 have l:n < σ.length:=by rw[<-R.len];exact(fj.mp aZ).1
 obtain⟨ag,ah⟩:=(R.cells n _ p (hG l) aZ).live
 rcases q with rfl|rfl
 ·exact ag
 ·exact ah
theorem bX.fq(R:bX X U σ h){a:aQ}(aI:h.get? a=aa):¬foot U a:=fun q=>by
 obtain⟨o,e⟩:=R.live q
 rw[aI]at e;cases e
theorem bX.Nz(R:bX X U σ h){a:aQ}{o:db}(aI:X.h₀.get? a=D o):¬foot U a:=by
 rintro ⟨p,ao,q⟩
 have:=R.above p ao
 rcases q with rfl|rfl
 ·rw[this.1]at aI;cases aI
 ·rw[this.2]at aI;cases aI
theorem bX.yo(R:bX X U σ h){a:aQ}(aI:h.get? a=aa):X.h₀.get? a=aa:=by
 cases q:X.h₀.get? a with
 |none=>rfl
 |some o=>exact nomatch aI.symm.trans (R.top _ o q)
theorem bX.rq(R:bX X U σ h){n:H}{p:aQ×aQ}(ao:U[n]?=D p):(p.1==sysModules)=aw:=by
 have:=(R.above p (im ao)).1
 obtain⟨o,aR⟩:=X.low
 exact n1.mpr fun e=>by rw[e,aR]at this;cases this
theorem bX.kw(R:bX X U σ h):X.K.In h:=fun a o e=>R.top a o (X.iz a o e)
theorem bX.rC(R:bX X U σ h)(S:Step U U own h aD)(aR:∀a∈own,ha h a)(aap:∀a∈own,X.h₀.get? a=aa)(am:∀a o,foot U a->h.get? a=D o->aD.get? a=D o):bX X U σ aD:=⟨R.len,fun i c p aE ao=>(R.cells i c p aE ao).move S aR (fun o e=>am _ o ⟨p,im ao,.inl rfl⟩ e) (fun o e=>am _ o ⟨p,im ao,.inr rfl⟩ e),R.apart,R.above,
  fun a o e=>S.keep a o (R.top a o e) (R.Nz e) fun q=>by rw[aap a q]at e;cases e⟩
theorem bX.kW(R:bX X U σ h){bB:aQ}(bH:¬foot U bB)(aZ:ha h bB)(aA:X.h₀.get? bB=aa)(am:∀a o,a≠bB->h.get? a=D o->aD.get? a=D o):bX X U σ aD:=by
 have S:Move U U [bB] h aD:=⟨⟨[],by simp,by simp⟩,fun a o e _ q=>am a o (by simpa using q) e⟩
 have ne:∀p∈U,p.1≠bB/\p.2≠bB:=fun p ao=>⟨fun e=>bH ⟨p,ao,.inl e.symm⟩,fun e=>bH ⟨p,ao,.inr e.symm⟩⟩
 refine⟨R.len,fun i c p aE ao=>(R.cells i c p aE ao).d8 S (by simpa using aZ) (fun o e=>am _ o (ne p (im ao)).1 e) (fun o e=>am _ o (ne p (im ao)).2 e),R.apart,R.above,fun a o e=>am a o (fun q=> ?_) (R.top a o e)⟩
 rw[q,aA]at e;cases e
theorem Step.of_keeps(U:cu)(own:I aQ)(am:∀a o,h.get? a=D o->aD.get? a=D o):Step U U own h aD:=⟨⟨[],by simp,by simp⟩,fun a o e _ _=>am a o e,fun a o e=>⟨o,am a o e⟩⟩
theorem bX.keeps(R:bX X U σ h)(am:∀a o,h.get? a=D o->aD.get? a=D o):bX X U σ aD:=R.rC (Step.of_keeps U [] am) (by simp) (by simp) fun a o _ e=>am a o e
theorem acj{a:aQ}(aY:wb a h aD)(aI:∃o,aD.get? a=D o):∀b o,h.get? b=D o->∃dp,aD.get? b=D dp:=fun b o e=>by
 by_cases q:b=a
 ·subst q;exact aI
 ·exact⟨o,(aY.2 b q).trans e⟩
theorem Step.F4{a:aQ}(aY:wb a h aD)(aj:∃o,aD.get? a=D o)(aI:foot U a\/a∈own):Step U U own h aD:=⟨⟨[],by simp,by simp⟩,fun b o e bH aR=>(aY.2 b (by rintro rfl;rcases aI with q|q;exact bH q;exact aR q)).trans e,acj aY aj⟩
theorem bX.put(R:bX X U σ h){n:H}{fA:Cell}{p:aQ×aQ}{d:aQ}(ao:U[n]?=D p)(hd:d=p.1\/d=p.2)(aY:wb d h aD)(EP:iP X U aD fA p):bX X U (σ.set n fA) aD/\Step U U [] h aD:=by
 have bH:foot U d:=⟨p,im ao,hd⟩
 have aj:∃o,aD.get? d=D o:=by rcases hd with rfl|rfl;exact EP.live.1;exact EP.live.2
 have S:Step U U [] h aD:=Step.F4 aY aj (.inl bH)
 refine⟨⟨by rw[R.len];simp,fun i c fF aE gN=> ?_,R.apart,R.above,fun a o e=>S.keep a o (R.top a o e) (R.Nz e) (by simp)⟩,S⟩
 by_cases hi:n=i
 ·subst hi
  rw[ao]at gN;cases gN
  have l:n < σ.length:=by rw[<-R.len];exact(fj.mp ao).1
  rw[rS l]at aE
  cases aE;exact EP
 ·rw[nW hi]at aE
  have q:=R.apart n i p fF ao gN hi
  refine(R.cells i c fF aE gN).move S (by simp) (fun o e=> ?_) fun o e=> ?_
  ·rw[aY.2 _ (by rcases hd with rfl|rfl;exact q.1.symm;exact q.2.2.1.symm)];exact e
  ·rw[aY.2 _ (by rcases hd with rfl|rfl;exact q.2.1.symm;exact q.2.2.2.symm)];exact e
theorem bX.alloc(R:bX X U σ h){c:Cell}{p:aQ×aQ}(ag:h.get? p.1=aa)(ah:h.get? p.2=aa)(am:∀a o,h.get? a=D o->aD.get? a=D o)(aE:iP X (U++ [p]) aD c p):
  bX X (U++ [p]) (σ++ [c]) aD/\Step U (U++ [p]) [] h aD:=by
 have S:Step U (U++ [p]) [] h aD:=⟨⟨[p],rfl,fun q dx=>by simp at dx;subst dx;exact⟨ag,ah⟩⟩,fun a o e _ _=>am a o e,fun a o e=>⟨o,am a o e⟩⟩
 have top:∀a,h.get? a=aa->X.h₀.get? a=aa:=fun a e=>by
  cases q:X.h₀.get? a with
  |none=>rfl
  |some o=>rw[R.top a o q]at e;cases e
 refine⟨⟨by simp[R.len],fun i fA fF ia gN=> ?_,fun i j q r hi cg EF=> ?_,fun q dx=> ?_,fun a o e=>am a o (R.top a o e)⟩,S⟩
 ·rcases HK i σ.length with l|l|l
  ·rw[jJ l]at ia
   rw[jJ (by rw[R.len];exact l)]at gN
   exact(R.cells i fA fF ia gN).move S (by simp) (fun o e=>am _ o e) fun o e=>am _ o e
  ·subst l
   rw[lq (dm _)]at ia
   rw[lq (by rw[R.len];exact dm _),R.len]at gN
   simp at ia gN
   subst ia gN;exact aE
  ·rw[oY (by simp;omega)]at ia;cases ia
 ·have pU:∀ {i:H} {q:aQ×aQ},U[i]?=D q->(∃o,h.get? q.1=D o)/\∃o,h.get? q.2=D o:=fun{i q} e=>⟨R.live ⟨q,im e,.inl rfl⟩,R.live ⟨q,im e,.inr rfl⟩⟩
  have JI:∀ {i:H} {q:aQ×aQ},(U++ [p])[i]?=D q->(U[i]?=D q/\i < U.length)\/(q=p/\i=U.length):=fun{i q} e=>by
   rcases HK i U.length with l|l|l
   ·exact .inl ⟨by rwa [jJ l]at e,l⟩
   ·subst l;simp at e;exact .inr ⟨e.symm,rfl⟩
   ·rw[oY (by simp;omega)]at e;cases e
  have ne:∀ {a b:aQ},(∃o,h.get? a=D o)->h.get? b=aa->a≠b:=fun{a b} x y e=>by
   obtain⟨o,x⟩:=x
   rw[e,y]at x;cases x
  rcases JI hi with⟨a,_⟩|⟨rfl,a⟩ <;>rcases JI cg with⟨b,_⟩|⟨rfl,b⟩
  ·exact R.apart i j q r a b EF
  ·have:=pU a
   exact⟨ne this.1 ag,ne this.1 ah,ne this.2 ag,ne this.2 ah⟩
  ·have:=pU b
   exact⟨(ne this.1 ag).symm,(ne this.2 ag).symm,(ne this.1 ah).symm,(ne this.2 ah).symm⟩
  ·omega
 ·rcases l4.mp dx with q|q
  ·exact R.above _ q
  ·simp at q;subst q;exact⟨top _ ag,top _ ah⟩
end
structure cR where
 slots:I (aK×H)
 fD:I aK
 h3:I aK:=[]
section
variable (P:c4)(C:Cl)
noncomputable def E5(ar:V->St->Prop)(J:Loc)(σ:St):E->Prop
 |.lit v=>ar v σ
 |.aq i=>∀v,c2 J i=D v->ar v σ
 |.aV g=>∀v,P.aV g=D v->ar v σ
 |.bad=>True
 |.ab es=>∀vs af,e3 P C es J σ=D (vs,af)->ar (.ab vs) af
 |.lst es=>∀vs af,e3 P C es J σ=D (vs,af)->ar (.lst vs) af
 |.hC es=>∀vs af,e3 P C es J σ=D (vs,af)->ar (.obj af.length) (af++ [.list vs])
 |.iD k=>ar (.obj σ.length) (σ++ [.dict k []])
 |.bin o a b=>∀x aM,aG P C a J σ=D (x,aM)->∀y bS,aG P C b J aM=D (y,bS)->∀z,hM o x y=D z->ar z bS
 |.neg a=>∀i aM,aG P C a J σ=D (.int i,aM)->ar (.int (-i)) aM
 |.not a=>∀x aM,aG P C a J σ=D (x,aM)->∀b,eh aM x=D b->ar (.bool (!b)) aM
 |.ay o a b=>∀x aM,aG P C a J σ=D (x,aM)->∀y bS,aG P C b J aM=D (y,bS)->∀z,dF bS o x y=D z->ar (.bool z) bS
 |.jo o p a b c=>∀x aM,aG P C a J σ=D (x,aM)->∀y bS,aG P C b J aM=D (y,bS)->(dF bS o x y=D aw->ar (.bool aw) bS)/\
   (dF bS o x y=D ae->∀u fT,aG P C c J bS=D (u,fT)->∀z,dF fT p y u=D z->ar (.bool z) fT)
 |.and es=>∀v af,wU P C es J σ=D (v,af)->ar v af
 |.or es=>∀v af,wW P C es J σ=D (v,af)->ar v af
 |.ite c a b=>∀x aM,aG P C c J σ=D (x,aM)->(eh aM x=D ae->∀v af,aG P C a J aM=D (v,af)->ar v af)/\(eh aM x=D aw->∀v af,aG P C b J aM=D (v,af)->ar v af)
 |.attr e a=>∀n aM,aG P C e J σ=D (.obj n,aM)->∀c fs,aM[n]?=D (.inst c fs)->∀v,mr fs a=D v->ar v aM
 |.sub e i=>∀x aM,aG P C e J σ=D (x,aM)->∀y bS,aG P C i J aM=D (y,bS)->∀v,ee bS x y=D v->ar v bS
 |.slice e lo hi=>∀x aM,aG P C e J σ=D (x,aM)->∀a bS,uA P C lo J aM=D (a,bS)->∀b fT,uA P C hi J bS=D (b,fT)->∀v,of fT x a b=D v->ar v fT
 |.call f as=>∀vs aM,e3 P C as J σ=D (vs,aM)->∀v af,C f vs aM=D (v,af)->ar v af
 |.new c as=>∀vs aM,e3 P C as J σ=D (vs,aM)->(P.init c=D aa->vs=[]->ar (.obj aM.length) (aM++ [.inst c []]))/\
   ∀f,P.init c=D (D f)->∀aF,C f (.obj aM.length::vs) (aM++ [.inst c []])=D (.none,aF)->ar (.obj aM.length) aF
 |.b6 o m as=>∀n aM,aG P C o J σ=D (.obj n,aM)->∀c fs,aM[n]?=D (.inst c fs)->∀f,P.b6 c m=D f->∀vs bS,e3 P C as J aM=D (vs,bS)->∀v af,C f (.obj n::vs) bS=D (v,af)->ar v af
 |.len e=>∀x aM,aG P C e J σ=D (x,aM)->∀vs,aM.kA x=D vs->vs.length<=a4->ar (.int vs.length) aM
 |.tuple e=>∀x aM,aG P C e J σ=D (x,aM)->∀vs,lJ aM x=D vs->vs.length<=a4->ar (.ab vs) aM
 |.sorted e=>∀x aM,aG P C e J σ=D (x,aM)->∀v,sq aM x=D v->ar v aM
 |.all e=>∀x aM,aG P C e J σ=D (x,aM)->∀vs,lJ aM x=D vs->∀av,hc vs=D av->ar (.bool (av.all id)) aM
 |.any e=>∀x aM,aG P C e J σ=D (x,aM)->∀vs,lJ aM x=D vs->∀av,hc vs=D av->ar (.bool (av.any id)) aM
 |.append o x=>∀n aM,aG P C o J σ=D (.obj n,aM)->re aM (.obj n)=ae->∀v bS,aG P C x J aM=D (v,bS)->∀vs,bS[n]?=D (.list vs)->vs.length < a4->ar .none (bS.set n (.list (vs++ [v])))
 |.extend o x=>∀n aM,aG P C o J σ=D (.obj n,aM)->re aM (.obj n)=ae->∀us bS,aG P C x J aM=D (.ab us,bS)->∀vs,bS[n]?=D (.list vs)->vs.length+us.length < a4->ar .none (bS.set n (.list (vs++us)))
 |.pop o=>∀n aM,aG P C o J σ=D (.obj n,aM)->∀vs,aM[n]?=D (.list vs)->vs.length<=a4->∀v,vs.getLast?=D v->ar v (aM.set n (.list vs.dropLast))
 |.qW o k=>∀n aM,aG P C o J σ=D (.obj n,aM)->rc aM (.obj n)=ae->∀x bS,aG P C k J aM=D (x,bS)->∀aW kvs,bS[n]?=D (.dict aW kvs)->aW.ok x=ae->ar ((cx kvs x).getD .none) bS
 |.qX o k d=>∀n aM,aG P C o J σ=D (.obj n,aM)->rc aM (.obj n)=ae->∀x bS,aG P C k J aM=D (x,bS)->∀y fT,aG P C d J bS=D (y,fT)->∀aW kvs,fT[n]?=D (.dict aW kvs)->aW.ok x=ae->ar ((cx kvs x).getD y) fT
 |.comp x i rng it c=>∀y aM,aG P C it J σ=D (y,aM)->∀vs,(if rng then ii y else dd aM y)=D vs->
   ∀aF,gH aM.length (fun v aF=>gC P C c (J.set i (D v)) aF) (fun v aF=>aG P C x (J.set i (D v)) aF) (eQ aM y) vs (aM++ [.list []])=D aF->ar (.obj aM.length) aF
 |.pB g k d=>∀i aM,aG P C k J σ=D (.int i,aM)->∀y bS,aG P C d J aM=D (y,bS)->(P.lD g).isEmpty=aw->ar (match(P.lD g).lookup i with|some j=> .int j|none=>y) bS
 |.m8 i j=>∀n,c2 J i=D (.obj n)->∀kvs,σ[n]?=D (.dict .s kvs)->∀vs,rH j (kvs.map (·.2))=D vs->vs.length<=a4/\(hc vs).isSome=ae->ar (.obj σ.length) (σ++ [.list vs])
end
theorem cD{α:Type}{x:α}{G:Prop}(h:aa=D x):G:=nomatch h
theorem ff{α dg:Type}{a mi:α}{b fz:dg}{ar:α->dg->Prop}(h:D (a,b)=D (mi,fz))(k:ar a b):ar mi fz:=by cases h;exact k
theorem ey{α:Type}{c:Prop}[oV c]{x:aJ α}{z:α}{G:Prop}(e:(if c then x else aa)=D z)(h:c->x=D z->G):G:=let⟨a,b⟩:=nq e;h a b
theorem B5{α:Type}{c:au}{x:aJ α}{z:α}{G:Prop}(e:(if !c then aa else x)=D z)(h:c=ae->x=D z->G):G:=by
 cases c with
 |true=>exact h rfl e
 |false=>exact cD e
theorem nF{dg:Type}{x:V}{f:H->aJ dg}{z:dg}{G:Prop}(h:(match x with|.obj n=>f n|_=>aa)=D z)(k:∀n,x= .obj n->f n=D z->G):G:=by cases x <;>first|exact cD h|exact k _ rfl h
theorem Ay{dg:Type}{x:V}{f:O->aJ dg}{z:dg}{G:Prop}(h:(match x with|.int n=>f n|_=>aa)=D z)(k:∀n,x= .int n->f n=D z->G):G:=by cases x <;>first|exact cD h|exact k _ rfl h
theorem zx{dg:Type}{o:aJ Cell}{f:H->I (H×V)->aJ dg}{z:dg}{G:Prop}(h:(match o with|some (.inst c fs)=>f c fs|_=>aa)=D z)(k:∀c fs,o=D (.inst c fs)->f c fs=D z->G):G:=by
 cases o with
 |none=>exact cD h
 |some c=>cases c <;>first|exact cD h|exact k _ _ rfl h
theorem wK{dg:Type}{o:aJ Cell}{f:I V->aJ dg}{z:dg}{G:Prop}(h:(match o with|some (.list vs)=>f vs|_=>aa)=D z)(k:∀vs,o=D (.list vs)->f vs=D z->G):G:=by
 cases o with
 |none=>exact cD h
 |some c=>cases c <;>first|exact cD h|exact k _ rfl h
theorem JJ{dg:Type}{o:aJ Cell}{f:gp->I (V×V)->aJ dg}{z:dg}{G:Prop}(h:(match o with|some (.dict aW kvs)=>f aW kvs|_=>aa)=D z)(k:∀aW kvs,o=D (.dict aW kvs)->f aW kvs=D z->G):G:=by
 cases o with
 |none=>exact cD h
 |some c=>cases c <;>first|exact cD h|exact k _ _ rfl h
theorem D4{P:c4}{C:Cl}{ar:V->St->Prop}{J:Loc}{σ af:St}{e:E}{v:V}(h:aG P C e J σ=D (v,af))(k:E5 P C ar J σ e):ar v af:=by
 cases e with
 |lit u=>exact ff h k
 |aq i=>exact br h fun u ag h=>ff h (k u ag)
 |aV g=>exact br h fun u ag h=>ff h (k u ag)
 |bad=>exact cD h
 |ab es=>exact br h fun p ag h=>ff h (k p.1 p.2 ag)
 |lst es=>exact br h fun p ag h=>ff h (k p.1 p.2 ag)
 |hC es=>exact br h fun p ag h=>ff h (k p.1 p.2 ag)
 |iD u=>exact ff h k
 |bin o a b=>exact br h fun p ag h=>br h fun q ah h=>br h fun z aN h=>ff h (k p.1 p.2 ag q.1 q.2 ah z aN)
 |neg a=>exact br h fun p ag h=>Ay (f:=fun i=>D (V.int (-i),p.2)) h fun i e h=>ff h (k i p.2 (e▸ag))
 |not a=>exact br h fun p ag h=>br h fun b ah h=>ff h (k p.1 p.2 ag b ah)
 |ay o a b=>exact br h fun p ag h=>br h fun q ah h=>br h fun z aN h=>ff h (k p.1 p.2 ag q.1 q.2 ah z aN)
 |jo o p a b c=>exact br h fun p ag h=>br h fun q ah h=>br h fun z aN h=>match z,aN,h with
  |false,aN,h=>ff h ((k p.1 p.2 ag q.1 q.2 ah).1 aN)
  |true,aN,h=>br h fun r b1 h=>br h fun z ef h=>ff h ((k p.1 p.2 ag q.1 q.2 ah).2 aN r.1 r.2 b1 z ef)
 |and es=>exact k v af h
 |or es=>exact k v af h
 |ite c a b=>exact br h fun p ag h=>br h fun t ah h=>match t,ah,h with
  |true,ah,h=>(k p.1 p.2 ag).1 ah v af h
  |false,ah,h=>(k p.1 p.2 ag).2 ah v af h
 |attr e a=>exact br h fun p ag h=>nF h fun n e h=>zx h fun c fs ah h=>br h fun u aN h=>ff h (k n p.2 (e▸ag) c fs ah u aN)
 |sub e i=>exact br h fun p ag h=>br h fun q ah h=>br h fun z aN h=>ff h (k p.1 p.2 ag q.1 q.2 ah z aN)
 |slice e lo hi=>exact br h fun p ag h=>br h fun q ah h=>br h fun r aN h=>br h fun z b1 h=>ff h (k p.1 p.2 ag q.1 q.2 ah r.1 r.2 aN z b1)
 |call f as=>exact br h fun p ag h=>k p.1 p.2 ag v af h
 |new c as=>
  refine br h fun p ag h=> ?_
  cases q:P.init c with
  |none=>dsimp only at h;rw[q]at h;exact cD h
  |some o=>
   dsimp only at h
   rw[q]at h
   cases o with
   |none=>
    obtain⟨vs,aM⟩:=p
    cases vs with
    |nil=>exact ff h ((k _ _ ag).1 q rfl)
    |cons _ _=>exact cD h
   |some f=>
    refine br h fun r ah h=> ?_
    obtain⟨u,aF⟩:=r
    cases u <;>first|exact cD h|exact ff h ((k _ _ ag).2 f q aF ah)
 |b6 o m as=>
  exact br h fun p ag h=>nF h fun n e h=>zx h fun c fs ah h=>by
   cases q:P.b6 c m with
   |none=>rw[q]at h;exact cD h
   |some f=>
    rw[q]at h
    exact br h fun r b1 h=>k n p.2 (e▸ag) c fs ah f q r.1 r.2 b1 v af (e▸h)
 |len e=>exact br h fun p ag h=>br h fun u ah h=>br ah fun vs aN ah=>ey ah fun aj e=>ff (bD e▸h) (k p.1 p.2 ag vs aN aj)
 |tuple e=>exact br h fun p ag h=>br h fun vs ah h=>ey h fun aj h=>ff h (k p.1 p.2 ag vs ah aj)
 |sorted e=>exact br h fun p ag h=>br h fun u ah h=>ff h (k p.1 p.2 ag u ah)
 |all e=>exact br h fun p ag h=>br h fun vs ah h=>br h fun av aN h=>ff h (k p.1 p.2 ag vs ah av aN)
 |any e=>exact br h fun p ag h=>br h fun vs ah h=>br h fun av aN h=>ff h (k p.1 p.2 ag vs ah av aN)
 |append o x=>exact br h fun p ag h=>B5 h fun eo h=>br h fun q ah h=>nF h fun n e h=>wK h fun vs aN h=>ey h fun aj h=>ff h (k n p.2 (e▸ag) (e▸eo) q.1 q.2 ah vs aN aj)
 |extend o x=>
  exact br h fun p ag h=>B5 h fun eo h=>br h fun q ah h=>by
   obtain⟨y,aF⟩:=p
   obtain⟨u,l9⟩:=q
   cases y <;>first|exact cD h|skip
   cases u <;>first|exact cD h|skip
   exact wK h fun vs aN h=>ey h fun aj h=>ff h (k _ _ ag eo _ _ ah vs aN aj)
 |pop o=>
  exact br h fun p ag h=>nF h fun n e h=>wK h fun vs ah h=>ey h fun aj h=>by
   cases q:vs.getLast? with
   |none=>rw[q]at h;exact cD h
   |some u=>rw[q]at h;exact ff h (k n p.2 (e▸ag) vs ah aj u q)
 |qW o x=>exact br h fun p ag h=>B5 h fun eo h=>br h fun q ah h=>nF h fun n e h=>JJ h fun aW kvs aN h=>ey h fun aj h=>ff h (k n p.2 (e▸ag) (e▸eo) q.1 q.2 ah aW kvs aN aj)
 |qX o x d=>exact br h fun p ag h=>B5 h fun eo h=>br h fun q ah h=>br h fun r b1 h=>nF h fun n e h=>JJ h fun aW kvs aN h=>ey h fun aj h=>ff h (k n p.2 (e▸ag) (e▸eo) q.1 q.2 ah r.1 r.2 b1 aW kvs aN aj)
 |comp x i rng it c=>exact br h fun p ag h=>br h fun vs ah h=>br h fun aF aN h=>ff h (k p.1 p.2 ag vs ah aF aN)
 |pB g x d=>
  exact br h fun p ag h=>br h fun q ah h=>Ay h fun i e h=>by
   cases z:(P.lD g).isEmpty with
   |true=>rw[z]at h;exact cD h
   |false=>rw[z]at h;exact ff h (k i p.2 (e▸ag) q.1 q.2 ah z)
 |m8 i j=>
  exact br h fun u ag h=>nF h fun n e h=>by
   cases q:σ[n]? with
   |none=>rw[q]at h;exact cD h
   |some c=>
    rw[q]at h
    cases c with
    |dict aW kvs=>
     cases aW with
     |s=>exact br h fun vs ah h=>ey h fun aj h=>ff h (k n (e▸ag) kvs q vs ah aj)
     |i|t=>exact cD h
    |list _|inst _ _=>exact cD h
section
variable {X:c0}{U:cu}{h:bP}{σ:St}{P:al->Prop}{x:al}
@[elab_as_elim] theorem aU.gP{i:O}(w:aU U h (.int i) x)(k:∀t,P (.int i t)):P x:=by obtain⟨t,rfl⟩:=w;exact k t
@[elab_as_elim] theorem aU.mO{i:aK}(w:aU U h (.str i) x)(k:∀t,P (.str i t)):P x:=by obtain⟨t,rfl⟩:=w;exact k t
@[elab_as_elim] theorem aU.jD{vs:I V}(w:aU U h (.ab vs) x)(k:∀a aS,ji h a aS->¬foot U a->bK U h vs aS.toList->P (.ref a)):P x:=by obtain⟨a,aS,rfl,ag,ah,aN⟩:=w;exact k a aS ag ah aN
@[elab_as_elim] theorem aU.k5{vs:I V}(w:aU U h (.lst vs) x)(k:∀a aS,h.IsList a aS->¬foot U a->bK U h vs aS.toList->P (.ref a)):P x:=by obtain⟨a,aS,rfl,ag,ah,aN⟩:=w;exact k a aS ag ah aN
@[elab_as_elim] theorem aU.objE{n:H}(w:aU U h (.obj n) x)(k:∀p,U[n]?=D p->P (.ref p.1)):P x:=by obtain⟨p,e,rfl⟩:=w;exact k p e
@[elab_as_elim] theorem aU.zw{n:H}{c:Cell}(R:bX X U σ h)(aE:σ[n]?=D c)(w:aU U h (.obj n) x)(k:∀p,U[n]?=D p->iP X U h c p->P (.ref p.1)):P x:=by obtain⟨p,e,rfl⟩:=w;exact k p e (R.cells _ _ _ aE e)
@[elab_as_elim] theorem aU.listE{n:H}{vs:I V}(R:bX X U σ h)(aE:σ[n]?=D (.list vs))(w:aU U h (.obj n) x)(k:∀a aS,h.IsList a aS->bK U h vs aS.toList->P (.ref a)):P x:=by obtain⟨p,e,rfl⟩:=w;obtain⟨_,aS,aj,aH⟩:=R.cells _ _ _ aE e;exact k _ aS aj.isList aH
theorem aU.to{v u:V}(w:aU U h v x)(e:v=u):aU U h u x:=e▸w
theorem bK.size{vs:I V}{aS:dD al}(r:bK U h vs aS.toList):aS.size=vs.length:=r.length
theorem ov{α:Type}{x y:V}{f:O->O->aJ α}{z:α}{a b:al}{P:al->al->Prop}(hz:m4 x y f=D z)(aA:aU U h x a)(bo:aU U h y b)(k:∀i j t u,f i j=D z->P (.int i t) (.int j u)):P a b:=VZ hz fun i j aT aX e=>by
  rw[aT]at aA
  rw[aX]at bo
  refine aU.gP aA fun t=>aU.gP bo fun u=>k i j t u e
theorem Cell.list_eq{x:Cell}{i:I V}(e:x.kA=some i):x= .list i:=by cases x <;>first|exact cD e|exact bs Cell.list (bD e)
@[elab_as_elim] theorem agr{v:V}{vs:I V}{P:al->Prop}(R:bX X U σ h)(e:σ.kA v=D vs)(w:aU U h v x)(dG:∀a aS,ji h a aS->bK U h vs aS.toList->v= .ab vs->P (.ref a))(cZ:∀a aS,h.IsList a aS->bK U h vs aS.toList->P (.ref a)):P x:=by
 cases v with
 |ab us=>cases bD e;exact w.jD fun a aS ag _ aN=>dG a aS ag aN rfl
 |lst us=>cases bD e;exact w.k5 fun a aS ag _ aN=>cZ a aS ag aN
 |obj n=>exact br e fun c ag ah=>aU.listE R (ag.trans (bs D (Cell.list_eq ah))) w cZ
 |none|bool _|int _|str _=>exact nomatch (show aa=D vs from e)
end
noncomputable def uc(X:c0)(U:cu)(h:bP)(en:e6)(m:aK->aJ al)(J:Loc)(x:aK)(i:H):Prop:=(en.kindOf x=D .local/\∀v,c2 J i=D v->∃val,m x=D val/\aU U h v val)\/
 (en.kindOf x=D .cell/\∃c cO,en.cells.lookup x=D c/\h.IsCell c cO/\∀v,c2 J i=D v->∃val,cO=D val/\aU U h v val)
noncomputable def ownOf(en:e6):I aQ:=en.locals::en.cells.map (·.2)
structure eZ(X:c0)(U:cu)(h:bP)(ai:cR)(en:e6)(J:Loc):Prop where
 kind:en.scope.kind= .function
 glob:en.globals=l8
 qJ:en.builtins=rZ
 slots:∃m,h.Ns en.locals m/\∀x i,ai.slots.lookup x=D i->uc X U h en m J x i
 fD:∀x∈ai.fD,en.kindOf x=D .globalImplicit
 cell:∀x c,(x,c)∈en.cells->∃cO,h.IsCell c cO
 apart:en.cells.Pairwise fun x y=>x.2≠y.2
 fq:∀a∈ownOf en,¬foot U a
 above:∀a∈ownOf en,X.h₀.get? a=aa
 h3:∀x∈ai.h3,en.kindOf x=D .cell/\∃c,en.cells.lookup x=D c
section
variable {X:c0}{U bj:cu}{ow:I aQ}{h aD:bP}{ai:cR}{en:e6}{J:Loc}{σ:St}
theorem eZ.td(N:eZ X U h ai en J):∀a∈ownOf en,ha h a:=fun a aI=>by
 rcases dj.mp aI with rfl|aI
 ·obtain⟨m,⟨o,es,ep,aR,hd,_⟩,_⟩:=N.slots
  intro dp aS n jY gK
  rw[aR]at jY;cases jY
  rw[hd]at gK;cases gK
 ·obtain⟨⟨x,c⟩,ao,rfl⟩:=dk.mp aI
  obtain⟨cO,o,aR,hd⟩:=N.cell x c ao
  intro dp aS n jY gK
  rw[aR]at jY;cases jY
  rw[hd]at gK;cases gK
theorem eZ.live(N:eZ X U h ai en J):∀a∈ownOf en,∃o,h.get? a=D o:=fun a aI=>by
 rcases dj.mp aI with rfl|aI
 ·obtain⟨m,⟨o,es,ep,aR,hd,_⟩,_⟩:=N.slots
  exact⟨o,aR⟩
 ·obtain⟨⟨x,c⟩,ao,rfl⟩:=dk.mp aI
  obtain⟨cO,o,aR,hd⟩:=N.cell x c ao
  exact⟨o,aR⟩
theorem AD{h aD:bP}{c:aQ}{v:aJ al}(x:h.IsCell c v)(am:∀o,h.get? c=D o->aD.get? c=D o):aD.IsCell c v:=
 let⟨o,aR,hd⟩:=x;⟨o,am o aR,hd⟩
theorem uc.to{m u9:aK->aJ al}{bt:Loc}{y:aK}{j:H}(r:uc X U h en m J y j)(hm:m y=u9 y)(aE:∀c,en.cells.lookup y=D c->∀o,h.get? c=D o->aD.get? c=D o)(bR:c2 bt j=c2 J j)(aH:∀ {v x},aU U h v x->aU bj aD v x):uc X bj aD en u9 bt y j:=by
 rcases r with⟨a,b⟩|⟨a,c,cO,e,z,b⟩
 ·exact .inl ⟨a,fun v q=>(b v (bR.symm.trans q)).elim fun x w=>⟨x,hm.symm.trans w.1,aH w.2⟩⟩
 ·exact .inr ⟨a,c,cO,e,AD z (aE c e),fun v q=>(b v (bR.symm.trans q)).elim fun x w=>⟨x,w.1,aH w.2⟩⟩
theorem zy{x:aK}{c:aQ}(aA:(x,c)∈en.cells):c∈ownOf en:= .tail _ (dk.mpr ⟨(x,c),aA,rfl⟩)
theorem eZ.d8(N:eZ X U h ai en J)(S:Move U bj ow h aD)(aR:∀a∈ow,ha h a)(hd:∀a∈ownOf en,a∉ow):eZ X bj aD ai en J:=by
 have keep:∀a∈ownOf en,∀o,h.get? a=D o->aD.get? a=D o:=fun a aI o e=>S.keep a o e (N.fq a aI) (hd a aI)
 exact⟨N.kind,N.glob,N.qJ,N.slots.elim fun m q=>⟨m,let⟨o,es,ep,e,r⟩:=q.1;⟨o,es,ep,keep _ (.head _) _ e,r⟩,fun x i aA=>(q.2 x i aA).to rfl (fun c e=>keep c (zy (mem_of_lookup e))) rfl fun w=>w.d8 S aR⟩,N.fD,
  fun x c aA=>(N.cell x c aA).elim fun cO aH=>⟨cO,AD aH (keep c (zy aA))⟩,N.apart,fun a aI=>(N.live a aI).elim fun o e=>S.fq e (N.fq a aI),N.above,N.h3⟩
theorem eZ.step(N:eZ X U h ai en J)(S:Step U bj ow h aD)(aR:∀a∈ow,ha h a)(hd:∀a∈ownOf en,a∉ow):eZ X bj aD ai en J:=N.d8 S.d8 aR hd
theorem eZ.kW(N:eZ X U h ai en J){bB:aQ}(aZ:ha h bB)(hd:bB∉ownOf en)(am:∀b o,b≠bB->h.get? b=D o->aD.get? b=D o):eZ X U aD ai en J:=N.d8 (ow:=[bB]) ⟨⟨[],by simp,by simp⟩,fun a o e _ q=>am a o (by simpa using q) e⟩ (by simpa using aZ) (fun a aI=>by simp;rintro rfl;exact hd aI)
theorem eZ.Ku(N:eZ X U h ai en J)(S:Step U bj [] h aD):eZ X bj aD ai en J:=N.step S (by simp) (by simp)
noncomputable def qw(n:H)(A:ea):Prop:=A.depth+2 * n+2 < recursionLimit/\A.units+16 * n+64 < cLine/\A.handled=aa
noncomputable def r4(n:H)(A:ea):Prop:=A.depth+2 * n+1 < recursionLimit/\A.units+16 * n+60 < cLine/\A.handled=aa
theorem qw.call{n:H}{A:ea}(r:qw n A):r4 n A:=⟨by have:=r.1;omega,by have:=r.2.1;omega,r.2.2⟩
noncomputable abbrev b4:al->bb->Prop:=fun _ _=>False
structure Reach(own:I aQ)(U:cu)(s:bb)(bj:cu)(bc:bb):Prop where
 same:∃h tk,bc= {s with heap:=h,toks:=tk}
 step:Step U bj own s.heap bc.heap
noncomputable def kg(X:c0)(U:cu)(s:bb)(af:St)(bc:bb)(Q:cu->Prop):Prop:=∃bj,Reach [] U s bj bc/\bX X bj af bc.heap/\Q bj
noncomputable def dN(X:c0)(U:cu)(s:bb)(v:V)(af:St)(val:al)(bc:bb):Prop:=kg X U s af bc fun bj=>aU bj bc.heap v val
structure dX(X:c0)(n:H)(A:ea)(U:cu)(s:bb)(ai:cR)(en:e6)(J:Loc)(σ:St):Prop where
 room:qw n A
 store:bX X U σ s.heap
 env:eZ X U s.heap ai en J
section
variable (X:c0)(P:c4)(C:Cl)(n:H)(ai:cR)
noncomputable def bQ(a:bG)(e:E):Prop:=∀J σ v af,aG P C e J σ=D (v,af)->∀A U s en,dX X n A U s ai en J σ->
 bi (bv X.prog X.w) A (gn a en) (dN X U s v af) b4 s
noncomputable def qx(as:I bG)(es:I E):Prop:=∀J σ vs af,e3 P C es J σ=D (vs,af)->∀A U s en pos,dX X n A U s ai en J σ->
 bi (bv X.prog X.w) A (spliced (t2 pos (n0 as en))) (fun xs bc=>kg X U s af bc fun bj=>bK bj bc.heap vs xs) b4 s
noncomputable def SB(a:bG)(e:E):Prop:=∀J σ v af b,aG P C e J σ=D (v,af)->eh af v=D b->∀A U s en,dX X n A U s ai en J σ->
 bi (bv X.prog X.w) A (nZ a en (gn a en)) (fun fz bc=>fz=b/\kg X U s af bc fun _=>True) b4 s
end
theorem Reach.refl(ow:I aQ)(U:cu)(s:bb):Reach ow U s U s:=⟨⟨s.heap,s.toks,rfl⟩,Step.refl ..⟩
theorem Reach.trans{bm cC:cu}{s a2 bC:bb}(a:Reach ow U s bm a2)(b:Reach ow bm a2 cC bC):Reach ow U s cC bC:=by
 obtain⟨jZ,amB,rfl⟩:=a.same
 obtain⟨kv,aiD,rfl⟩:=b.same
 exact⟨⟨kv,aiD,rfl⟩,a.step.trans b.step⟩
theorem Reach.tG{s a2:bb}{xV:I aQ}(a:Reach ow U s bj a2)(aR:∀a∈ow,a∈xV\/s.heap.get? a=aa):Reach xV U s bj a2:=⟨a.same,a.step.own aR⟩
theorem Reach.keeps{s:bb}{aD:bP}{tk:H}(am:∀a o,s.heap.get? a=D o->aD.get? a=D o):Reach ow U s U {s with heap:=aD,toks:=tk}:=⟨⟨aD,tk,rfl⟩,Step.of_keeps _ _ am⟩
theorem Reach.toks{s:bb}{tk:H}:Reach ow U s U {s with toks:=tk}:=⟨⟨s.heap,tk,rfl⟩,Step.refl ..⟩
theorem Reach.push{s:bb}{o:db}:Reach ow U s U {s with heap:=s.heap.push o}:=Reach.keeps (tk:=s.toks) (fun a dp e=>hJ o e)
theorem kg.refl{s:bb}{Q:cu->Prop}(R:bX X U σ s.heap)(q:Q U):kg X U s σ s Q:=⟨U,Reach.refl ..,R,q⟩
theorem kg.trans{s a2 bC:bb}{bS:St}{Q:cu->Prop}{bm:cu}(r:Reach [] U s bm a2)(b:kg X bm a2 bS bC Q):kg X U s bS bC Q:=
 let⟨cC,b3,mh,q⟩:=b;⟨cC,r.trans b3,mh,q⟩
variable {P:c4}{C:Cl}{n:H}{A:ea}{s:bb}{aM bS:St}
theorem dX.next{a2:bb}(c:dX X n A U s ai en J σ)(r:Reach [] U s bj a2)(R:bX X bj aM a2.heap):dX X n A bj a2 ai en J aM:=⟨c.room,R,c.env.Ku r.step⟩
theorem bQ.intro{a:bG}{e:E}(pa:∀J σ A U s en,dX X n A U s ai en J σ->E5 P C (fun v af=>bi (bv X.prog X.w) A (gn a en) (dN X U s v af) b4 s) J σ e):bQ X P C n ai a e:=fun J σ v af h A U s en c=>D4 (ar:=fun v af=>bi (bv X.prog X.w) A (gn a en) (dN X U s v af) b4 s) h (pa J σ A U s en c)
theorem SB.intro{a:bG}{e:E}(pa:∀J σ A U s en,dX X n A U s ai en J σ->E5 P C (fun v af=>∀b,eh af v=D b->bi (bv X.prog X.w) A (nZ a en (gn a en)) (fun fz bc=>fz=b/\kg X U s af bc fun _=>True) b4 s) J σ e):SB X P C n ai a e:=fun J σ v af b h ax A U s en c=>D4 (ar:=fun v af=>∀b,eh af v=D b->bi (bv X.prog X.w) A (nZ a en (gn a en)) (fun fz bc=>fz=b/\kg X U s af bc fun _=>True) b4 s) h (pa J σ A U s en c) b ax
theorem bQ.run{lr:al->bb->Prop}{a:bG}{e:E}{v:V}{Q:al->bb->Prop}(h:bQ X P C n ai a e)(he:aG P C e J σ=D (v,aM))(c:dX X n A U s ai en J σ)
  (k:∀bm a2 val,Reach [] U s bm a2->dX X n A bm a2 ai en J aM->aU bm a2.heap v val->Q val a2):bi (bv X.prog X.w) A (gn a en) Q lr s:=e7 (h J σ v aM he A U s en c) (fun val a2 q=>let⟨bm,r,R,x⟩:=q;k bm a2 val r (c.next r R) x) fun _ _ x=>x.elim
theorem qx.run{as:I bG}{es:I E}{vs:I V}{pos:c3}{Q:I al->bb->Prop}(h:qx X P C n ai as es)(he:e3 P C es J σ=D (vs,aM))(c:dX X n A U s ai en J σ)
  (k:∀bm a2 xs,Reach [] U s bm a2->dX X n A bm a2 ai en J aM->bK bm a2.heap vs xs->Q xs a2):bi (bv X.prog X.w) A (spliced (t2 pos (n0 as en))) Q b4 s:=e7 (h J σ vs aM he A U s en pos c) (fun val a2 q=>let⟨bm,r,R,x⟩:=q;k bm a2 val r (c.next r R) x) fun _ _ x=>x
theorem SB.run{lr:al->bb->Prop}{a:bG}{e:E}{v:V}{b:au}{Q:au->bb->Prop}(h:SB X P C n ai a e)(he:aG P C e J σ=D (v,aM))(aP:eh aM v=D b)(c:dX X n A U s ai en J σ)
  (k:∀bm a2,Reach [] U s bm a2->dX X n A bm a2 ai en J aM->Q b a2):bi (bv X.prog X.w) A (nZ a en (gn a en)) Q lr s:=e7 (h J σ v aM b he aP A U s en c) (fun val a2 q=>let⟨e,bm,r,R,_⟩:=q;e▸k bm a2 r (c.next r R)) fun _ _ x=>x.elim
theorem zZ:∀ {es:I E} {J:Loc} {σ af:St} {vs:I V},e3 P C es J σ=D (vs,af)->vs.length=es.length
 |[],_,_,_,_,h=>by cases show D (_,_)=D (_,_)from h;rfl
 |e::es,_,_,_,_,h=>by
  obtain⟨⟨u,aM⟩,ag,bu⟩:=tU.mp h;obtain⟨⟨us,bS⟩,ah,aN⟩:=tU.mp bu
  cases aN
  simp[zZ ah]
theorem done{v:V}{val:al}{a2:bb}{bm:cu}(r:Reach [] U s bm a2)(R:bX X bm aM a2.heap)(x:aU bm a2.heap v val):dN X U s v aM val a2:=⟨bm,r,R,x⟩
theorem kn{v:V}{val:al}{tk:H}{a2:bb}{bm:cu}(r:Reach [] U s bm a2)(R:bX X bm aM a2.heap)(x:aU bm a2.heap v val):dN X U s v aM val {a2 with toks:=tk}:=⟨bm,r.trans Reach.toks,R,x⟩
theorem afZ{i:O}{k pos}:bQ X P C n ai (.Constant (.int i) k pos) (.lit (.int i)):= .intro fun J σ A U s en c=>alg (kn (Reach.refl ..) c.store ⟨_,rfl⟩)
theorem agf{i:aK}{k pos}:bQ X P C n ai (.Constant (.str i) k pos) (.lit (.str i)):= .intro fun J σ A U s en c=>wpAny_Constant_str (kn (Reach.refl ..) c.store ⟨_,rfl⟩)
theorem afQ{b:au}{k pos}:bQ X P C n ai (.Constant (.bool b) k pos) (.lit (.bool b)):= .intro fun J σ A U s en c=>wpAny_Constant_bool (done (Reach.refl ..) c.store rfl)
theorem af9{k pos}:bQ X P C n ai (.Constant .none k pos) (.lit .none):= .intro fun J σ A U s en c=>wpAny_Constant_none (done (Reach.refl ..) c.store rfl)
theorem af2{x:aK}{i:H}{pos}(aA:ai.slots.lookup x=D i)(hd:(x==("__debug__" :aK))=aw):bQ X P C n ai (.Name x pos) (.aq i):= .intro fun J σ A U s en c v ag=>by
 obtain⟨m,hm,aY⟩:=c.env.slots
 rcases aY x i aA with⟨am,aH⟩|⟨am,jn,cO,aE,hA,aH⟩
 ·obtain⟨val,e,r⟩:=aH v ag
  exact CB (alu c.env.kind am hm e (done (Reach.refl ..) c.store r)) hd
 ·obtain⟨val,e,r⟩:=aH v ag
  exact CB (RZ c.env.kind am aE (e▸hA) (done (Reach.refl ..) c.store r)) hd
theorem agu:qx X P C n ai [] []:=fun J σ v af h A U s en pos c=>by
 cases show D (_,_)=D (_,_)from h
 exact wpAny_items_nil (kg.refl c.store rfl)
theorem agt{a:bG}{as:I bG}{e:E}{es:I E}(aI:bQ X P C n ai a e)(has:qx X P C n ai as es)(aY:∀en,n0 (a::as) en=(aw,gn a en)::n0 as en):qx X P C n ai (a::as) (e::es):=fun J σ v af h A U s en pos c=>by
 obtain⟨⟨u,aM⟩,ag,bu⟩:=tU.mp h;obtain⟨⟨us,bS⟩,ah,aN⟩:=tU.mp bu
 cases aN
 refine wpAny_items_cons (aI.run ag c fun bm a2 x cS bN fu=>has.run ah bN fun cC bC xs b3 ch hE=> ?_) (aY en)
 exact⟨cC,cS.trans b3,ch.store,x,xs,rfl,fu.step b3.step (by simp),hE⟩
theorem aU.push{v:V}{x:al}(R:aU U h v x)(o:db):aU U (h.push o) v x:=R.step (Step.of_keeps U [] (fun a dp e=>hJ o e)) (by simp)
theorem bK.push{vs:I V}{xs:I al}(R:bK U h vs xs)(o:db):bK U (h.push o) vs xs:=R.step (Step.of_keeps U [] (fun a dp e=>hJ o e)) (by simp)
theorem dN.push{o:db}{v:V}{a2:bb}{bm:cu}(r:Reach [] U s bm a2)(R:bX X bm aM a2.heap)(w:aU bm (a2.heap.push o) v (.ref a2.heap.objs.size)):dN X U s v aM (.ref a2.heap.objs.size) {a2 with heap:=a2.heap.push o}:=done (r.trans Reach.push) (R.keeps fun a dp e=>hJ _ e) w
theorem agh{as:I bG}{es:I E}{k pos}(h:qx X P C n ai as es)(hz:es.length<=1000):bQ X P C n ai (.Tuple as k pos) (.ab es):= .intro fun J σ A U s en c vs af ah=>wpAny_Tuple (h.run ah c fun bm a2 xs r bN x=>⟨by rw[x.length,zZ ah];exact cp hz (by decide),
  .push r bN.store ⟨_,xs.toArray,rfl,⟨_,iL _ rfl,rfl,0,rfl⟩,bN.store.fq (iZ (dm _)),x.push _⟩⟩)
theorem af3{as:I bG}{es:I E}{pos}(h:qx X P C n ai as es)(hz:es.length<=1000):bQ X P C n ai (.List as pos) (.lst es):= .intro fun J σ A U s en c vs af ah=>wpAny_List (h.run ah c fun bm a2 xs r bN x=>⟨by rw[x.length,zZ ah];exact cp hz (by decide),
  .push r bN.store ⟨_,xs.toArray,rfl,⟨_,iL _ rfl,rfl,0,rfl⟩,bN.store.fq (iZ (dm _)),x.push _⟩⟩)
end
section
variable {X:c0}{U bj:cu}{h aD:bP}{ai:cR}{en:e6}{J:Loc}{σ aM bS:St}{P:c4}{C:Cl}{n:H}{A:ea}{s:bb}
noncomputable def N3:mW->H2
 |.add=> .Add|.sub=> .Sub|.fdiv=> .FloorDiv|.mod=> .Mod|.pow=> .Pow|.band=> .BitAnd|.bor=> .BitOr
theorem YX{a b:O}(ax:0 < b):a.fdiv b=a / b:=Int.fdiv_eq_ediv_of_nonneg a (yD ax)
theorem Zc{a b:O}(ax:0 < b):a.fmod b=a % b:=Int.fmod_eq_emod_of_nonneg a (yD ax)
theorem bitAnd_nn{a b:O}(aI:0<=a)(ax:0<=b):Rv a b=((a.toNat &&& b.toNat:H):O):=by
 unfold Rv;rw[cW aI,cW ax]
theorem VP{a b:O}(aI:0<=a)(ax:0<=b):akK a b=((a.toNat|||b.toNat:H):O):=by
 unfold akK Rv
 have ag:¬0<=o3 a:=by unfold o3;omega
 have ah:¬0<=o3 b:=by unfold o3;omega
 rw[ek ag,ek ah]
 have aT:o3 (o3 a)=a:=by unfold o3;omega
 have aX:o3 (o3 b)=b:=by unfold o3;omega
 simp only[aT,aX]
 unfold o3;omega
theorem Tz{t b:aQ}{x y:dD al}{Q:al->bb->Prop}(aP:ji s.heap t x)(ax:ji s.heap b y)
  (h0:x.toList=[]->Q (.ref b) s) (ag:x.toList≠ []->y.toList=[]->Q (.ref t) s)
  (ah:x.toList≠ []->y.toList≠ []->Q (.ref s.heap.objs.size) {s with heap:=s.heap.push {cls:= .type "tuple",data:= .seq (x.toList++y.toList).toArray}})
  (lF:x.size+y.size<=kP):bi (bv X.prog X.w) A (qn .Add (.ref t) (.ref b)) Q b4 s:=by
 obtain⟨⟨cls,m9,data,ai⟩,aR,aE,n,hd⟩:=id aP
 obtain⟨⟨Wl,wP,data2,ya⟩,pJ,sz,gE,on⟩:=id ax
 simp only at aE hd sz on
 subst aE hd sz on
 have e:x++y=(x.toList++y.toList).toArray:=by simp
 by_cases aH:x.toList=[]
 ·exact H4 ⟨_,aR,rfl⟩ ⟨_,pJ,rfl⟩ RR RT RB Ry (Rx _ _)
   (tuple_addW0 t b x y n gE m9 wP ai ya (by simpa using aH)) ⟨aR,pJ,h0 aH⟩
 ·by_cases hw:y.toList=[]
  ·exact H4 ⟨_,aR,rfl⟩ ⟨_,pJ,rfl⟩ RR RT RB Ry (Rx _ _)
    (tuple_addW1 t b x y n gE m9 wP ai ya (by simpa using aH) (by simpa using hw)) ⟨aR,pJ,ag aH hw⟩
  ·refine H4 ⟨_,aR,rfl⟩ ⟨_,pJ,rfl⟩ RR RT RB Ry (Rx _ _)
    (tuple_addW2 t b x y n gE m9 wP ai ya (by simpa using aH) (by simpa using hw) lF) ⟨aR,pJ, ?_⟩
   rw[e]
   exact ah aH hw
theorem Tx{t b:aQ}{x y:dD al}{Q:al->bb->Prop}(aP:s.heap.IsList t x)(ax:s.heap.IsList b y)
  (ah:Q (.ref s.heap.objs.size) {s with heap:=s.heap.push {cls:= .type "list",data:= .seq (x.toList++y.toList).toArray}})
  (lF:x.size+y.size<=kP):bi (bv X.prog X.w) A (qn .Add (.ref t) (.ref b)) Q b4 s:=by
 obtain⟨⟨cls,m9,data,ai⟩,aR,aE,n,hd⟩:=id aP
 obtain⟨⟨Wl,wP,data2,ya⟩,pJ,sz,gE,on⟩:=id ax
 simp only at aE hd sz on
 subst aE hd sz on
 have e:x++y=(x.toList++y.toList).toArray:=by simp
 refine H4 ⟨_,aR,rfl⟩ ⟨_,pJ,rfl⟩ noFill_list_add seq_list_add PySem.F.slot_list_add PySem.F.entry_list_add (PySem.F.args_list_add_2 _ _) (list_addW t b x y n gE m9 wP ai ya lF) ⟨aR,pJ, ?_⟩
 rw[e]
 exact ah
theorem oa{B:Prop}(h:∀G:Prop,(B->G)->G):B:=h B id
theorem agO{b:O}(h:0 < b/\b < 1000000):b.natAbs < 1073741824:=by omega
theorem Nh{a b:H}(h:a+b<=a4):a+b<=kP:=cp h (by decide)
theorem bK.nil_of{vs:I V}{xs:dD al}(r:bK U h vs xs.toList)(e:xs.toList=[]):vs=[]:=Q8.mp (r.length.symm.trans (bs HC e))
theorem TA{xs d4:I V}{t u:aQ}{aS jts:dD al}(aj:xs.length+d4.length<=a4)(R:bX X U σ s.heap)(aP:ji s.heap t aS)(bH:¬foot U t)(aH:bK U s.heap xs aS.toList)(cd:ji s.heap u jts)(bR:¬foot U u)(hw:bK U s.heap d4 jts.toList):
  bi (bv X.prog X.w) A (qn .Add (.ref t) (.ref u)) (dN X U s (.ab (xs++d4)) σ) b4 s:=by
 refine Tz aP cd (fun e=> ?_) (fun _ e=> ?_) (fun _ _=> ?_) (Nh (by rw[aH.size,hw.size];exact aj))
 ·rw[aH.nil_of e]
  exact done (Reach.refl ..) R ⟨u,jts,rfl,cd,bR,hw⟩
 ·rw[hw.nil_of e,fi]
  exact done (Reach.refl ..) R ⟨t,aS,rfl,aP,bH,aH⟩
 ·exact dN.push (Reach.refl ..) R ⟨_,(aS.toList++jts.toList).toArray,rfl,⟨_,iL _ rfl,rfl,0,rfl⟩,R.fq (iZ (dm _)),(aH.append hw).push _⟩
theorem VG{o:mW}{x y z:V}{a b:al}(hz:hM o x y=D z)(R:bX X U σ s.heap)(aA:aU U s.heap x a)(bo:aU U s.heap y b):
  bi (bv X.prog X.w) A (qn (N3 o) a b) (dN X U s z σ) b4 s:=by
 have fin:∀ {i:O} {k k':H},D (V.int i)=D z->dN X U s z σ (.int i k') {s with toks:=k}:=fun e=>bD e▸kn (Reach.refl ..) R ⟨_,rfl⟩
 cases o with
 |add=>
  cases x with
  |int i=>exact br hz fun j aT e=>aU.gP aA fun t=>aU.gP (bo.to (V.kx aT)) fun u=>PySem.P.add_int (fin e)
  |ab xs=>exact br hz fun d4 aT e=>ey e fun aj e=>bD e▸aU.jD aA fun t aS aP bH aH=>aU.jD (bo.to (V.rI aT)) fun u jts cd bR hw=>TA aj R aP bH aH cd bR hw
  |lst xs=>exact br hz fun d4 aT e=>ey e fun aj e=>bD e▸aU.k5 aA fun t aS aP bH aH=>aU.k5 (bo.to (V.AX aT)) fun u jts cd bR hw=>Tx aP cd (dN.push (Reach.refl ..) R ⟨_,(aS.toList++jts.toList).toArray,rfl,⟨_,iL _ rfl,rfl,0,rfl⟩,R.fq (iZ (dm _)),(aH.append hw).push _⟩) (Nh (by rw[aH.size,hw.size];exact aj))
  |none|bool _|str _|obj _=>exact cD hz
 |sub=>exact ov (P:=fun a b=>bi (bv X.prog X.w) A (qn .Sub a b) (dN X U s z σ) b4 s) hz aA bo fun i j t u e=>PySem.P.sub_int (fin e)
 |fdiv=>exact ov (P:=fun a b=>bi (bv X.prog X.w) A (qn .FloorDiv a b) (dN X U s z σ) b4 s) hz aA bo fun i j t u e=>ey e fun ax e=>floordiv_int (QV ax.1) (by rw[YX ax.1];exact fin e) (.inl (PyProof.noPylong_small (agO ax)))
 |mod=>exact ov (P:=fun a b=>bi (bv X.prog X.w) A (qn .Mod a b) (dN X U s z σ) b4 s) hz aA bo fun i j t u e=>ey e fun ax e=>mod_int' (QV ax) (by rw[Zc ax];exact fin e)
 |pow=>
  exact ov (P:=fun a b=>bi (bv X.prog X.w) A (qn .Pow a b) (dN X U s z σ) b4 s) hz aA bo fun i j t u e=>ey e fun⟨ah,h0,ag⟩ e=>by
   rw[ah]
   exact pow_int_small h0 (yD (v3 ag (by decide))) (by decide) (fin e)
 |band=>exact ov (P:=fun a b=>bi (bv X.prog X.w) A (qn .BitAnd a b) (dN X U s z σ) b4 s) hz aA bo fun i j t u e=>ey e fun ax e=>and_int (by rw[bitAnd_nn ax.1 ax.2];exact fin e)
 |bor=>exact ov (P:=fun a b=>bi (bv X.prog X.w) A (qn .BitOr a b) (dN X U s z σ) b4 s) hz aA bo fun i j t u e=>ey e fun ax e=>or_int (by rw[VP ax.1 ax.2];exact fin e)
end
section
open PySem.SeqAt
section
variable {X:c0}{U bj:cu}{h aD:bP}{ai:cR}{en:e6}{J:Loc}{σ aM bS:St}{P:c4}{C:Cl}{n:H}{A:ea}{s:bb}
noncomputable def tj:n6->CmpOp
 |.eq=> .Eq|.ne=> .NotEq|.lt=> .Lt|.le=> .LtE|.gt=> .Gt|.ge=> .GtE|.is=> .Is|.AE=> .IsNot|.mem=> .In|.kB=> .NotIn
theorem bK.at{U h}{vs:I V}{aS:dD al}(r:bK U h vs aS.toList){j:H}(l:j < vs.length)(ci:j < aS.size):aU U h vs[j] aS[j]:=by
 obtain⟨x,aT,dR⟩:=r.get (hG l)
 rw[n3,Hs ci]at aT
 exact(bD aT).symm▸dR
theorem rL(dw:A.units+16 < cLine):A.in1.units+5 < cLine:=c9 (cp (gb (jK _ 1 5)) (qg (by decide) _)) dw
theorem rK(dw:A.units+16 < cLine):A.units < cLine:=c9 (cn _ _) dw
theorem Mm{as av:I V}{xs d4:dD al}(dw:A.units+16 < cLine)(cM:bK U s.heap as xs.toList)(f5:bK U s.heap av d4.toList)(tq:V.fS as=ae)(tt:V.fS av=ae):
  ∀(j:H) (ag:j < xs.size) (ah:j < d4.size),EqAt A.in1 s xs[j] d4[j] (decide (as[j]?=av[j]?)):=fun j ag ah=>by
 have cL:j < as.length:=cM.size▸ag
 have ci:j < av.length:=f5.size▸ah
 rw[hG cL,hG ci]
 exact(kQ.mpr ⟨bs D,bD⟩:decide (as[j]=av[j])=decide (D as[j]=D av[j]))▸
  D3 4 (A:=A.in1) (s:=s) (qh (rL dw)) ((cM.at cL ag).pr 4 (ke.mp tq _ (Cn cL))) ((f5.at ci ah).pr 4 (ke.mp tt _ (Cn ci)))
theorem aiu{a b:aQ}{as av:I V}{xs d4:dD al}(dw:A.units+16 < cLine)(aI:ji s.heap a xs)(ax:ji s.heap b d4)(cM:bK U s.heap as xs.toList)(f5:bK U s.heap av d4.toList)(tq:V.fS as=ae)(tt:V.fS av=ae):
  RcAt A s (.ref a) (.ref b) (decide (as=av))/\RcNeAt A s (.ref a) (.ref b) (!decide (as=av)):=by
 have e:=Mm dw cM f5 tq tt
 have a6:=RcAt.tuples (A:=A) (mA aI) (mA ax) (rK dw) e
 have bl:=RcNeAt.tuples (A:=A) (mA aI) (mA ax) (rK dw) e
 rw[cM.size,f5.size,Fw]at a6 bl
 exact⟨a6,bl⟩
theorem MW{a b:aQ}{as av:I V}{xs d4:dD al}(dw:A.units+16 < cLine)(aI:s.heap.IsList a xs)(ax:s.heap.IsList b d4)(cM:bK U s.heap as xs.toList)(f5:bK U s.heap av d4.toList)(tq:V.fS as=ae)(tt:V.fS av=ae):
  RcAt A s (.ref a) (.ref b) (decide (as=av))/\RcNeAt A s (.ref a) (.ref b) (!decide (as=av)):=by
 by_cases aj:xs.size=d4.size
 ·have e:=Mm dw cM f5 tq tt
  have a6:=RcAt.lists (A:=A) aI ax aj (rK dw) e
  have bl:=RcNeAt.lists (A:=A) aI ax aj (rK dw) e
  have d:=Fw as av
  have ku:as.length=av.length:=cM.size.symm.trans (aj.trans f5.size)
  rw[ku,akp,n2,v0]at d
  rw[cM.size,ku,d]at a6 bl
  exact⟨a6,bl⟩
 ·rw[ek fun e=>aj (by rw[cM.size,f5.size,e])]
  have ne:(xs.size !=d4.size)=ae:=bne_iff_ne.mpr aj
  exact⟨RcAt.lists_lengths aI ax ne (rK dw),RcNeAt.lists_lengths aI ax ne (rK dw)⟩
theorem DictOf.empty{prog:g9}{w:World}{K:Type}[kK K]{knd:Cw prog w K}{ki:Type}[kK ki]{cZ:KeyKind prog w ki}{h:bP}{a:aQ}(x:h.DictOfH knd a []):h.DictOf cZ a []:=by
 obtain⟨o,es,ep,aR,aE,hd,he,_,_⟩:=x
 obtain⟨l⟩:=es
 simp at he
 subst he
 exact⟨o,_,ep,aR,aE,hd,fun e he=>by simp at he,Pairs.nil,List.nodup_nil⟩
theorem iQ.len{K:Type}{mk:K->V}{U h}{r:I (V×V)}{l:I (K×al)}(c:iQ mk U h r l):l.length=r.length:=by
 induction c with
 |nil=>rfl
 |cons _ _ bh=>exact bs Rn bh
theorem jk.nil_of{l:I (aK×al)}(c:jk U h [] l):l=[]:=by cases c;rfl
theorem gr.nil_of{l:I (V×aQ×al)}(c:gr U h [] l):l=[]:=by cases c;rfl
theorem Cell.J5{x:Cell}{i:I (V×V)}(e:x.DP=some i):x= .dict .s i:=by
 cases x with
 |dict k l=>cases k <;>first|exact cD e|exact bs (Cell.dict .s) (bD e)
 |list _|inst _ _=>exact cD e
theorem Cell.J6{x:Cell}{i:I (V×V)}(e:x.DQ=some i):x= .dict .t i:=by
 cases x with
 |dict k l=>cases k <;>first|exact cD e|exact bs (Cell.dict .t) (bD e)
 |list _|inst _ _=>exact cD e
theorem D2{a b:I V}{z:au}(h:zW a b=D z):V.fS a=ae/\V.fS b=ae/\decide (a=b)=z:=
 let⟨q,e⟩:=nq h
 let⟨a6,bl⟩:=ei.mp q
 ⟨a6,bl,bD e⟩
theorem Xl{x y:aJ Cell}{z:au}(h:D1 x y=D z):(∃l,x=D (.dict .s l)/\y=D (.dict .s [])/\l.isEmpty=z)\/(x=D (.dict .t [])/\y=D (.dict .t [])/\z=ae):=by
 unfold D1 at h
 split at h
 ·rename_i r e
  cases h
  refine .inl (br e fun a aT e=>br e fun b aX e=>br aT fun c a6 aT=>br aX fun d bl aX=> ?_)
  obtain⟨ax,e⟩:=nq e
  exact⟨a,a6.trans (bs D (Cell.J5 aT)),bl.trans (bs D ((Cell.J5 aX).trans (by rw[Co.mp ax]))),bD e⟩
 ·refine .inr (br h fun a aT e=>br e fun b aX e=>br aT fun c a6 aT=>br aX fun d bl aX=> ?_)
  obtain⟨ax,e⟩:=nq e
  obtain⟨aI,ax⟩:=ei.mp ax
  exact⟨a6.trans (bs D ((Cell.J6 aT).trans (by rw[Co.mp aI]))),bl.trans (bs D ((Cell.J6 aX).trans (by rw[Co.mp ax]))),(bD e).symm⟩
noncomputable def CO(X:c0)(A:ea)(Q:al->bb->Prop)(s:bb)(a b:al)(z:au):Prop:=(Q (.bool z) s->bi (bv X.prog X.w) A (compareOp .Eq a b) Q b4 s)/\(Q (.bool (!z)) s->bi (bv X.prog X.w) A (compareOp .NotEq a b) Q b4 s)
theorem Dy{a b:al}{z:au}{Q:al->bb->Prop}(q:RcAt A s a b z/\RcNeAt A s a b (!z)):
  CO X A Q s a b z:=⟨fun z=>q.1 _ _ _ _ z,fun z=>q.2 _ _ _ _ z⟩
theorem LH{ka:I (aK×al)}(e:ka=[]):KeqHits A.in1 s [] ka ae:=by subst e;exact .nil
theorem Kt{kvs:I (V×V)}{p q:aQ×aQ}(dw:A.units < cLine)(R:bX X U σ s.heap)(ao:U[n]?=D p){m:H}(dx:U[m]?=D q){ka:I (aK×al)}(aj:ka.length=kvs.length)(dO:s.heap.DictOf (strKind X.prog X.w) p.1 ka)(un:s.heap.DictOf (strKind X.prog X.w) q.1 []){Q:al->bb->Prop}:
  CO X A Q s (.ref p.1) (.ref q.1) kvs.isEmpty:=by
 have e:(ka.length==([]:I (aK×al)).length && ae)=kvs.isEmpty:=by rw[aj];cases kvs <;>rfl
 have g:ka.length=([]:I (aK×al)).length->ka=[]:=Q0
 exact⟨fun z=>keq_eq (r:=ae) (R.rq ao) (R.rq dx) dO un dw (fun aj=>LH (g aj)) (e.symm▸z),fun z=>keq_ne (r:=ae) (R.rq ao) (R.rq dx) dO un dw (fun aj=>LH (g aj)) (e.symm▸z)⟩
theorem Qo{x y:V}{a b:al}{z:au}(dw:A.units+16 < cLine)(hz:nT σ x y=D z)(R:bX X U σ s.heap)(aA:aU U s.heap x a)(bo:aU U s.heap y b)(Q:al->bb->Prop):
  CO X A Q s a b z:=by
 cases x with
 |none=>exact cD hz
 |bool i=>exact br hz fun j aT e=>bD e▸(show a=_ from aA)▸(show b= .bool j from bo.to (V.Jz aT))▸⟨fun q=>eq_bool q,fun q=>ne_bool q⟩
 |int i=>exact br hz fun j aT e=>bD e▸aU.gP aA fun t=>aU.gP (bo.to (V.kx aT)) fun u=>⟨fun q=>PySem.P.eq_int q,fun q=>PySem.P.ne_int q⟩
 |str i=>exact br hz fun j aT e=>bD e▸aU.mO aA fun t=>aU.mO (bo.to (V.BP aT)) fun u=>⟨fun q=>eq_str q,fun q=>ne_str q⟩
 |ab as=>exact br hz fun av aT e=>let⟨ag,ah,e⟩:=D2 e;e▸aU.jD aA fun t aS aP _ aH=>aU.jD (bo.to (V.rI aT)) fun u jts cd _ hw=>Dy (aiu dw aP cd aH hw ag ah)
 |lst as=>exact br hz fun av aT e=>let⟨ag,ah,e⟩:=D2 e;e▸aU.k5 aA fun t aS aP _ aH=>aU.k5 (bo.to (V.AX aT)) fun u jts cd _ hw=>Dy (MW dw aP cd aH hw ag ah)
 |obj n=>
  cases y with
  |lst av=>exact br hz fun as aT e=>br aT fun c aE aT=>let⟨ag,ah,e⟩:=D2 e;e▸aU.listE R (aE.trans (bs D (Cell.list_eq aT))) aA fun t aS aP aH=>aU.k5 bo fun u jts cd _ hw=>Dy (MW dw aP cd aH hw ag ah)
  |obj m=>
   refine aU.objE aA fun p ao=>aU.objE bo fun q dx=> ?_
   rcases Xl hz with⟨kvs,aE,hd,e⟩|⟨aE,hd,e⟩
   ·obtain⟨_,ka,dO,cM⟩:=R.cells _ _ _ aE ao
    obtain⟨_,Mr,un,f5⟩:=R.cells _ _ _ hd dx
    exact e▸Kt (rK dw) R ao dx cM.len dO (jk.nil_of f5▸un)
   ·obtain⟨_,ka,dO,cM⟩:=R.cells _ _ _ aE ao
    obtain⟨_,Mr,un,f5⟩:=R.cells _ _ _ hd dx
    exact e▸Kt (kvs:=[]) (ka:=[]) (rK dw) R ao dx rfl (DictOf.empty (gr.nil_of cM▸dO)) (DictOf.empty (gr.nil_of f5▸un))
  |none|bool _|int _|str _|ab _=>exact cD hz
open Classical in
theorem Nk{x:V}{ln:al}{vs:I V}{xs:I al}(aA:eS s.heap 5 x ln)(oM:bK U s.heap vs xs)(ao:V.fS vs=ae):xs.any (fun y=>decide (eS s.heap 5 x y))=decide (x∈vs):=by
 induction vs generalizing xs with
 |nil=>obtain rfl:xs=[]:=oM;simp
 |cons v vs bh=>
  obtain⟨y,d4,rfl,a,b⟩:=oM
  simp only[V.fS,HA,yy]at ao
  have pv:=(a.pr 4 ao.1).up 4 1
  rw[Ck,bh b ao.2]
  have:decide (eS s.heap 5 x y)=decide (x=v):=by
   rw[kQ]
   exact⟨fun q=>eS.inj 5 q pv,fun q=>q▸pv⟩
  rw[this]
  by_cases q:x=v <;>simp[q]
open Classical in
theorem Nl{x:V}{ln:al}{vs:I V}{xs:dD al}(dw:A.units+16 < cLine)(aA:eS s.heap 5 x ln)(oM:bK U s.heap vs xs.toList)(ao:V.fS vs=ae):∀y,y∈xs->EqAt A.in1 s y ln (decide (eS s.heap 5 x y)):=fun y bo=>by
 obtain⟨i,hi⟩:=yE.mp (Array.mem_toList_iff.mpr bo)
 have l:i < vs.length:=by rw[<-oM.length];exact(fj.mp hi).1
 obtain⟨yu,e,r⟩:=oM.get (hG l)
 rw[hi]at e;cases e
 simp only[V.fS,ke]at ao
 have pv:=(r.pr 4 (ao _ (Cn l))).up 4 1
 have:=D3 5 (A:=A.in1) (s:=s) (by show A.units+1+5 < cLine;omega) pv aA
 have e:decide (eS s.heap 5 x y)=decide (vs[i]=x):=by
  rw[kQ]
  exact⟨fun q=>eS.inj 5 pv q,fun q=>q▸pv⟩
 rw[e];exact this
inductive hX(U:cu)(h:bP):aJ V->aJ al->Prop
 |none:hX U h aa aa
 |some {v x} (w:aU U h v x):hX U h (D v) (D x)
theorem hX.has{o:aJ V}{q:aJ al}(f:hX U h o q):q.isSome=o.isSome:=by cases f <;>rfl
theorem hX.get{o:aJ V}{q:aJ al}{v:V}(f:hX U h o q)(e:o=D v):∃x,q=D x/\aU U h v x:=by
 cases f with
 |none=>cases e
 |some w=>exact⟨_,rfl,bD e▸w⟩
theorem hX.getD{o:aJ V}{q:aJ al}{d:V}{mq:al}(f:hX U h o q)(w:aU U h d mq):aU U h (o.getD d) (q.getD mq):=by
 cases f with
 |none=>exact w
 |some w=>exact w
theorem aiM{K:Type}[kK K]{i j:K}{x:al}{l:I (K×al)}:valueAt ((i,x)::l) j=if i=j then D x else valueAt l j:=by
 unfold valueAt
 rw[v5]
 by_cases q:i=j <;>simp only[q,decide_true,R2,we,kR] <;>rfl
theorem iQ.found{K:Type}[kK K]{mk:K->V}(inj:∀ {a b},mk a=mk b->a=b){j:K}{r:I (V×V)}{l:I (K×al)}(c:iQ mk U h r l):hX U h (cx r (mk j)) (valueAt l j):=by
 induction c with
 |nil=>exact .none
 |@cons i v x r l w c bh=>
  rw[aiM]
  unfold cx
  by_cases q:i=j
  ·rw[a7 q,a7 (bs mk q)];exact .some w
  ·rw[bz q,bz fun e=>q (inj e)];exact bh
theorem Uq{j:V}{y:V×aQ×al}{l:I (V×aQ×al)}:atKey (y::l) j=if y.1=j then D y.2 else atKey l j:=by
 unfold atKey
 rw[v5]
 by_cases q:y.1=j <;>simp only[q,decide_true,R2,we,kR] <;>rfl
theorem gr.found{j:V}{r:I (V×V)}{l:I (V×aQ×al)}(c:gr U h r l):hX U h (cx r j) ((atKey l j).map (·.2)):=by
 induction c with
 |nil=>exact .none
 |@cons k a v x r l p q w c bh=>
  rw[Uq]
  unfold cx
  by_cases q:k=j
  ·rw[a7 q,a7 q];exact .some w
  ·rw[bz q,bz q];exact bh
theorem pb.found{j:O}{r:I (V×V)}{l:I (O×al)}(c:pb U h r l):hX U h (cx r (.int j)) (valueAt l j):=iQ.found V.int.inj c
theorem jk.found{j:aK}{r:I (V×V)}{l:I (aK×al)}(c:jk U h r l):hX U h (cx r (.str j)) (valueAt l j):=iQ.found V.str.inj c
theorem MI{j:V}{r:I (V×V)}{l:I (V×aQ×al)}(c:gr U h r l):(atKey l j).isSome=mE r j:=Rp.symm.trans c.found.has
theorem AA{v:V}(h:v.isInt=ae):∃i,v= .int i:=by cases v <;>first|exact⟨_,rfl⟩|cases h
theorem BQ{v:V}(h:v.isStr=ae):∃i,v= .str i:=by cases v <;>first|exact⟨_,rfl⟩|cases h
theorem x0{v:V}{x:al}(h:v.isTup=ae)(r:aU U s.heap v x):∃a,x= .ref a:=by
 cases v with
 |ab _=>exact aU.jD r fun a _ _ _ _=>⟨a,rfl⟩
 |none|bool _|int _|str _|lst _|obj _=>cases h
noncomputable def y1(X:c0)(A:ea)(Q:al->bb->Prop)(s:bb)(a b:al)(z:au):Prop:=((∀tk,Q (.bool z) {s with toks:=tk})->bi (bv X.prog X.w) A (compareOp .In a b) Q b4 s)/\((∀tk,Q (.bool (!z)) {s with toks:=tk})->bi (bv X.prog X.w) A (compareOp .NotIn a b) Q b4 s)
theorem Qp{x:V}{vs:I V}{z:au}(h:vR x vs=D z):x.pure=ae/\V.fS vs=ae/\decide (x∈vs)=z:=
 let⟨q,e⟩:=nq h
 let⟨a6,bl⟩:=ei.mp q
 ⟨a6,bl,bD e⟩
open Classical in
theorem acC{x:V}{a:al}{z:au}{vs:I V}{t:aQ}{aS:dD al}{Q:al->bb->Prop}(dw:A.units+16 < cLine)(aA:aU U s.heap x a)(h:vR x vs=D z)(aP:ji s.heap t aS)(aH:bK U s.heap vs aS.toList):y1 X A Q s a (.ref t) z:=by
 obtain⟨ag,ah,e⟩:=Qp h
 have px:=aA.pr 5 ag
 have e:=(Hr).symm.trans ((Nk px aH ah).trans e)
 have q:=Nl dw px aH ah
 exact⟨fun z=>in_tupleAt _ (mA aP) q (e.symm▸z s.toks),fun z=>notIn_tupleAt _ (mA aP) q (e.symm▸z s.toks)⟩
open Classical in
theorem Nm{x:V}{a:al}{z:au}{vs:I V}{t:aQ}{aS:dD al}{Q:al->bb->Prop}(dw:A.units+16 < cLine)(aA:aU U s.heap x a)(h:vR x vs=D z)(aP:s.heap.IsList t aS)(aH:bK U s.heap vs aS.toList):y1 X A Q s a (.ref t) z:=by
 obtain⟨ag,ah,e⟩:=Qp h
 have px:=aA.pr 5 ag
 have e:=(Hr).symm.trans ((Nk px aH ah).trans e)
 have q:=Nl dw px aH ah
 exact⟨fun z=>in_listAt _ aP q (e.symm▸z s.toks),fun z=>notIn_listAt _ aP q (e.symm▸z s.toks)⟩
theorem sL{j:O}{t:kO}:(intKind X.prog X.w).is j (.int j t)=ae:=by unfold intKind;exact n2 j
theorem acB{x:V}{a:al}{aW:gp}{kvs:I (V×V)}{p:aQ×aQ}{Q:al->bb->Prop}(dw:A.units+16 < cLine)(aA:aU U s.heap x a)(am:aW.ok x=ae)(nm:(p.1==sysModules)=aw)(cr:iP X U s.heap (.dict aW kvs) p):y1 X A Q s a (.ref p.1) (mE kvs x):=by
 cases aW with
 |i=>
  obtain⟨j,rfl⟩:=AA am
  obtain⟨_,b5,dO,cM⟩:=cr
  exact aU.gP aA fun t=>(show _=mE kvs (.int j)from(pb.found cM).has)▸⟨fun z=>wpAny_in_of sL nm dO.mapOf (z _),fun z=>alx sL nm dO.mapOf (z _)⟩
 |s=>
  obtain⟨j,rfl⟩:=BQ am
  obtain⟨_,b5,dO,cM⟩:=cr
  exact aU.mO aA fun t=>(show _=mE kvs (.str j)from(jk.found cM).has)▸⟨fun z=>wpAny_in_of (yO X.prog X.w j t) nm dO.mapOf (z _),fun z=>alx (yO X.prog X.w j t) nm dO.mapOf (z _)⟩
 |t=>
  obtain⟨ag,ah⟩:=ei.mp am
  obtain⟨_,xs,dO,cM⟩:=cr
  obtain⟨ad,rfl⟩:=x0 ag aA
  exact MI cM▸⟨fun z=>wpAny_in_heap (knd:=vL X.prog X.w) (rL dw) (aA.pr 5 ah) nm dO (z _),fun z=>wpAny_notIn_heap (knd:=vL X.prog X.w) (rL dw) (aA.pr 5 ah) nm dO (z _)⟩
theorem Nn{x y:V}{a b:al}{z:au}(dw:A.units+16 < cLine)(hz:tK σ x y=D z)(R:bX X U σ s.heap)(aA:aU U s.heap x a)(bo:aU U s.heap y b)(Q:al->bb->Prop):y1 X A Q s a b z:=by
 cases y with
 |ab vs=>exact aU.jD bo fun t aS aP _ aH=>acC dw aA hz aP aH
 |lst vs=>exact aU.k5 bo fun t aS aP _ aH=>Nm dw aA hz aP aH
 |obj m=>
  refine br hz fun c aE hz=> ?_
  cases c with
  |list vs=>exact aU.listE R aE bo fun t aS aP aH=>Nm dw aA hz aP aH
  |dict aW kvs=>exact ey hz fun am e=>bD e▸aU.zw R aE bo fun p ao cr=>acB dw aA am (R.rq ao) cr
  |inst _ _=>exact cD hz
 |none|bool _|int _|str _=>exact cD hz
end
end
section
open PySem.SeqAt
section
variable {X:c0}{U bj:cu}{h aD:bP}{ai:cR}{en:e6}{J:Loc}{σ aM bS:St}{P:c4}{C:Cl}{n:H}{A:ea}{s:bb}
theorem bK.empty{U h}{vs:I V}{xs:dD al}(r:bK U h vs xs.toList):xs.isEmpty=vs.isEmpty:=by
 have e:xs.isEmpty=decide (xs.size=0):=rfl
 rw[e,r.size];cases vs <;>rfl
theorem va{k:H}(h:k<=a4):(k:O) < 2 ^ 63:=Int.lt_of_le_of_lt (oW.mpr h) (by decide)
theorem Hc{x:V}{a:al}{z:au}(hz:eh σ x=D z)(R:bX X U σ s.heap)(aA:aU U s.heap x a){Q:au->bb->Prop}(q:∀tk,Q z {s with toks:=tk}):bi (bv X.prog X.w) A (truthy a) Q b4 s:=by
 cases x with
 |bool b=>exact(show a= .bool b from aA)▸t4 (bD hz▸q s.toks)
 |none=>exact(show a= .none from aA)▸truthy_none (bD hz▸q s.toks)
 |ab vs=>exact ey hz fun aj e=>aU.jD aA fun t aS aP _ aH=>truthy_tuple aP (va (aH.size▸aj)) (aH.empty▸bD e▸q _)
 |lst vs=>exact ey hz fun aj e=>aU.k5 aA fun t aS aP _ aH=>alC aP (va (aH.size▸aj)) (aH.empty▸bD e▸q _)
 |obj n=>exact br hz fun vs ag hz=>br ag fun c aE ag=>ey hz fun aj e=>aU.listE R (aE.trans (bs D (Cell.list_eq ag))) aA fun t aS aP aH=>alC aP (va (aH.size▸aj)) (aH.empty▸bD e▸q _)
 |int _|str _=>exact cD hz
theorem lc(c:qw n A):A.units+16 < cLine:=c9 (ake (cn _ (16 * n)) (by decide)) c.2.1
theorem Mj{x:V}{a:al}(aA:aU U h x a):(a==RF)=x.isNone:=by
 cases x with
 |none=>rw[show a= .none from aA];rfl
 |bool b=>rw[show a= .bool b from aA];rfl
 |int i=>exact aU.gP aA fun _=>rfl
 |str i=>exact aU.mO aA fun _=>rfl
 |ab vs=>exact aU.jD aA fun _ _ _ _ _=>rfl
 |lst vs=>exact aU.k5 aA fun _ _ _ _ _=>rfl
 |obj m=>exact aU.objE aA fun _ _=>rfl
theorem V.NI{y:V}(h:y.isNone=true):y= .none:=by cases y <;>first|rfl|cases h
theorem qN{o:n6}{x y:V}{a b:al}{z:au}(dw:A.units+16 < cLine)(hz:dF σ o x y=D z)(R:bX X U σ s.heap)(aA:aU U s.heap x a)(bo:aU U s.heap y b){Q:al->bb->Prop}
  (q:∀tk,Q (.bool z) {s with toks:=tk}):bi (bv X.prog X.w) A (compareOp (tj o) a b) Q b4 s:=by
 have fin:∀ {w:au},D w=D z->Q (.bool w) s:=fun e=>bD e▸q s.toks
 cases o with
 |eq=>exact(Qo dw hz R aA bo Q).1 (q s.toks)
 |ne=>exact br ((akC ..).symm.trans hz) fun w hw e=>(Qo dw hw R aA bo Q).2 (fin e)
 |lt=>exact ov (P:=fun a b=>bi (bv X.prog X.w) A (compareOp .Lt a b) Q b4 s) hz aA bo fun i j t u e=>PySem.P.lt_int (fin e)
 |le=>
  cases x with
  |int i=>exact br hz fun j aT e=>aU.gP aA fun t=>aU.gP (bo.to (V.kx aT)) fun u=>PySem.P.le_int (fin e)
  |str i=>exact br hz fun j aT e=>aU.mO aA fun t=>aU.mO (bo.to (V.BP aT)) fun u=>(by first|exact PySem.P.le_str (fin e)|exact PySem.le_str (fin e)|exact PyProof.le_str (fin e))
  |none|bool _|ab _|lst _|obj _=>exact cD hz
 |gt=>exact ov (P:=fun a b=>bi (bv X.prog X.w) A (compareOp .Gt a b) Q b4 s) hz aA bo fun i j t u e=>PySem.P.gt_int (fin e)
 |ge=>exact ov (P:=fun a b=>bi (bv X.prog X.w) A (compareOp .GtE a b) Q b4 s) hz aA bo fun i j t u e=>PySem.P.ge_int (fin e)
 |is=>exact ey hz fun aZ e=>(show b= .none from bo.to (V.NI aZ))▸is_none (Mj aA▸fin e)
 |AE=>exact ey hz fun aZ e=>(show b= .none from bo.to (V.NI aZ))▸isNot_none (Mj aA▸fin e)
 |mem=>exact(Nn dw hz R aA bo Q).1 q
 |kB=>exact br ((akC ..).symm.trans hz) fun w hw e=>(Nn dw hw R aA bo Q).2 ((show(!w)=z from bD e)▸q)
theorem dN.after{v:V}{val:al}{a2 bC:bb}{bm:cu}(r:Reach [] U s bm a2)(q:dN X bm a2 v aM val bC):dN X U s v aM val bC:=kg.trans r q
theorem afP{o:mW}{op:H2}{l r:bG}{a b:E}{pos}(aR:N3 o=op)(aI:bQ X P C n ai l a)(ax:bQ X P C n ai r b):bQ X P C n ai (.BinOp l op r pos) (.bin o a b):= .intro fun J σ A U s en c x aM ag y bS ah z aN=>aR▸wpAny_BinOp (aI.run ag c fun bm a2 jF cS bN fu=>ax.run ah bN fun cC bC tJ b3 ch hE=>e7 (VG aN ch.store (fu.step b3.step (by simp)) hE) (fun v bc q=> .after (cS.trans b3) q) fun _ _ x=>x)
theorem af5{x:bG}{a:E}{pos}(aI:bQ X P C n ai x a):bQ X P C n ai (.UnaryOp .USub x pos) (.neg a):= .intro fun J σ A U s en c i aM ag=>ali (aI.run ag c fun bm a2 jF cS bN fu=>aU.gP fu fun t=>PySem.P.neg_int (kn cS bN.store ⟨_,rfl⟩))
theorem aga{x:bG}{a:E}{pos}(aI:bQ X P C n ai x a):bQ X P C n ai (.UnaryOp .Not x pos) (.not a):= .intro fun J σ A U s en c x aM ag b ah=>ali (aI.run ag c fun bm a2 jF cS bN fu=>not_value (Hc ah bN.store fu fun tk=>kn cS bN.store rfl))
theorem afH{x:bG}{a:E}{pos}(aI:SB X P C n ai x a):SB X P C n ai (.UnaryOp .Not x pos) (.not a):= .intro fun J σ A U s en c x aM ag b ah fz e=>wpAny_isTrue_Not (aI.run ag ah c fun bm a2 cS bN=>⟨bD e,bm,cS,bN.store,trivial⟩)
theorem afS{o:n6}{op:CmpOp}{l r:bG}{a b:E}{pos}(aR:tj o=op)(hm:behindInMarks op r=aw)(aI:bQ X P C n ai l a)(ax:bQ X P C n ai r b):bQ X P C n ai (.Compare l [op] [r] pos) (.ay o a b):= .intro fun J σ A U s en c x aM ag y bS ah z aN=>wpAny_Compare1 (aI.run ag c fun bm a2 jF cS bN fu=>ax.run ah bN fun cC bC tJ b3 ch hE=>aR▸qN (lc c.room) aN ch.store (fu.step b3.step (by simp)) hE fun tk=>kn (cS.trans b3) ch.store rfl) hm
theorem afE{o:n6}{op:CmpOp}{l r:bG}{a b:E}{pos}(aR:tj o=op)(hm:behindInMarks op r=aw)(aI:bQ X P C n ai l a)(ax:bQ X P C n ai r b):SB X P C n ai (.Compare l [op] [r] pos) (.ay o a b):= .intro fun J σ A U s en c x aM ag y bS ah z aN fz e=>wpAny_isTrue_Compare1 (aI.run ag c fun bm a2 jF cS bN fu=>ax.run ah bN fun cC bC tJ b3 ch hE=>aR▸qN (lc c.room) aN ch.store (fu.step b3.step (by simp)) hE fun tk=>t4 ⟨bD e,cC,(cS.trans b3).trans Reach.toks,ch.store,trivial⟩) hm
theorem af0{t b o:bG}{eU wA wJ:E}{pos}(aE:SB X P C n ai t eU)(aI:bQ X P C n ai b wA)(ax:bQ X P C n ai o wJ):bQ X P C n ai (.IfExp t b o pos) (.ite eU wA wJ):= .intro fun J σ A U s en c x aM ag=>⟨fun ah v af aN=>wpAny_IfExp (aE.run ag ah c fun bm a2 cS bN=>aI.run aN bN fun cC bC jF b3 ch hE=>done (cS.trans b3) ch.store hE),
  fun ah v af aN=>wpAny_IfExp (aE.run ag ah c fun bm a2 cS bN=>ax.run aN bN fun cC bC jF b3 ch hE=>done (cS.trans b3) ch.store hE)⟩
theorem Qx{M:wc}{E:al->bb->Prop}{t b o:bG}{pos}{whole:Sem al}{Q:au->bb->Prop}(h:bi M A (nZ t en (gn t en)) (fun z a2=>if z then bi M A (nZ b en (gn b en)) Q E a2 else bi M A (nZ o en (gn o en)) Q E a2) E s):
  bi M A (nZ (.IfExp t b o pos) en whole) Q E s:=by
 rw[arm_isTrue_IfExp]
 refine b9 (e7 h (fun z a2 jZ=> ?_) fun _ _ x=>x)
 cases z <;>exact jZ
theorem afG{t b o:bG}{eU wA wJ:E}{pos}(aE:SB X P C n ai t eU)(aI:SB X P C n ai b wA)(ax:SB X P C n ai o wJ):SB X P C n ai (.IfExp t b o pos) (.ite eU wA wJ):= .intro fun J σ A U s en c x aM ag=>⟨fun ah v af aN iw q1=>Qx (aE.run ag ah c fun bm a2 cS bN=>aI.run aN q1 bN fun cC bC b3 ch=>⟨rfl,cC,cS.trans b3,ch.store,trivial⟩),
  fun ah v af aN iw q1=>Qx (aE.run ag ah c fun bm a2 cS bN=>ax.run aN q1 bN fun cC bC b3 ch=>⟨rfl,cC,cS.trans b3,ch.store,trivial⟩)⟩
noncomputable def Gk:bG->au
 |.UnaryOp .Not _ _=>aw
 |.BoolOp .. =>aw
 |.IfExp .. =>aw
 |.Compare .. =>aw
 |_=>ae
theorem abj{e:bG}(ao:Gk e=ae)(whole:Sem al):nZ e en whole=(do let v<-whole;standAt e.pos;holding [v] (truthy v)):=by
 cases e with
 |UnaryOp op x p=>cases op with
  |Not=>cases ao
  |Invert=>rfl
  |UAdd=>rfl
  |USub=>rfl
 |BoolOp=>cases ao
 |IfExp=>cases ao
 |Compare=>cases ao
 |_=>rfl
theorem afJ{e:bG}{a:E}(ao:Gk e=ae)(aI:bQ X P C n ai e a):SB X P C n ai e a:=fun J σ v af iw aD q1 A U s en c=>by
 refine wpAny_isTrue_value (aI.run aD c fun bm a2 jF cS bN fu=>Hc q1 bN.store fu fun tk=>⟨rfl,bm,cS.trans Reach.toks,bN.store,trivial⟩) (abj ao _)
inductive ir{α dg:Type}(R:α->dg->Prop):I α->I dg->Prop
 |nil:ir R [] []
 |cons {a b as av}:R a b->ir R as av->ir R (a::as) (b::av)
set_option backward.match.sparseCases true in
theorem VU{M:wc}{E:al->bb->Prop}{pos:c3}{op:BoolOp}{x y:Sem al}{rest:I (Sem al)}{Q:al->bb->Prop}
  (h:bi M A x (fun v a2=>bi M A (truthy v) (fun t bC=>if t=(op== .And)then bi M A (boolOp pos op (y::rest)) Q E bC else Q v bC) E a2) E s):bi M A (boolOp pos op (x::y::rest)) Q E s:=by
 show bi M A (do let v<-x;standAt pos;let t<-holding [v] (truthy v);match op,t with|.And,aw|.Or,ae=>pure v|_,_=>boolOp pos op (y::rest)) Q E s
 refine b9 (e7 h (fun v a2 jZ=>b9 (H8 (b9 (yQ (e7 jZ (fun t bC kv=> ?_) fun _ _ x=>x))))) fun _ _ x=>x)
 cases op <;>cases t <;>first|exact kv|exact dE kv
theorem VV{pos:c3}{op:BoolOp}{x:Sem al}:boolOp pos op [x]=x:=by cases op <;>rfl
noncomputable def uz(P:c4)(C:Cl)(k:au)(es:I E)(J:Loc)(σ:St):aJ (V×St):=match k with|true=>wU P C es J σ|false=>wW P C es J σ
noncomputable def tl(k:au):BoolOp:=match k with|true=> .And|false=> .Or
theorem Kz{k:au}{r:V×St}(h:uz P C k [] J σ=D r):False:=by cases k <;>exact nomatch (show aa=D r from h)
theorem KA{k:au}{e:E}:uz P C k [e] J σ=aG P C e J σ:=by cases k <;>rfl
theorem Ky{k:au}{e cH:E}{es:I E}{v:V}{af:St}{G:Prop}(h:uz P C k (e::cH::es) J σ=D (v,af))
  (q:∀x aM b,aG P C e J σ=D (x,aM)->eh aM x=D b->(if b=k then uz P C k (cH::es) J aM else D (x,aM))=D (v,af)->G):G:=by
 cases k with
 |true=>exact br h fun p ag h=>br h fun b ah h=>q p.1 p.2 b ag ah (by cases b <;>exact h)
 |false=>exact br h fun p ag h=>br h fun b ah h=>q p.1 p.2 b ag ah (by cases b <;>exact h)
theorem k_go{pos:c3}{k:au}{as:I bG}{es:I E}(pa:ir (bQ X P C n ai) as es):∀ {J σ v af A U s en},uz P C k es J σ=D (v,af)->dX X n A U s ai en J σ->bi (bv X.prog X.w) A (boolOp pos (tl k) (evalEach as en)) (dN X U s v af) b4 s:=by
 induction pa with
 |nil=>exact fun h=>(Kz h).elim
 |cons aI has bh=>
  intro J σ v af A U s en h c
  cases has with
  |nil=>
   refine(VV (pos:=pos) (op:=tl k) (x:=gn _ en)).symm▸aI J σ v af (KA.symm.trans h) A U s en c
  |cons Ai has=>
   refine Ky h fun x aM b ag ah aN=>VU (aI.run ag c fun bm a2 jF cS bN fu=>Hc ah bN.store fu fun tk=> ?_)
   have e:(b=(tl k== .And))=(b=k):=by cases k <;>rfl
   simp only[e]
   by_cases q:b=k
   ·rw[a7 q]
    rw[a7 q]at aN
    exact e7 (bh aN ⟨bN.room,bN.store,bN.env⟩) (fun v bc q=>kg.trans (cS.trans Reach.toks) q) fun _ _ x=>x
   ·rw[bz q]
    rw[bz q]at aN
    cases aN
    exact done (cS.trans Reach.toks) bN.store fu
theorem afL{as:I bG}{es:I E}{pos}(aI:ir (bQ X P C n ai) as es):bQ X P C n ai (.BoolOp .And as pos) (.and es):=fun J σ v af h A U s en c=>by
 rw[ak7]
 exact k_go (k:=ae) aI h c
theorem agb{as:I bG}{es:I E}{pos}(aI:ir (bQ X P C n ai) as es):bQ X P C n ai (.BoolOp .Or as pos) (.or es):=fun J σ v af h A U s en c=>by
 rw[ak7]
 exact k_go (k:=aw) aI h c
theorem TE{M:wc}{E:al->bb->Prop}{k:au}{a:bG}{Q:au->bb->Prop}(h:bi M A (nZ a en (gn a en)) Q E s):bi M A (allTrue (tl k) [a] en) Q E s:=by
 cases k with
 |true=>exact alj (e7 h (fun b s h=>by cases b;exact h;exact wpAny_allTrue_And_nil h) fun _ _ x=>x)
 |false=>exact alk (e7 h (fun b s h=>by cases b;exact wpAny_allTrue_Or_nil h;exact h) fun _ _ x=>x)
theorem TD{M:wc}{E:al->bb->Prop}{k:au}{a:bG}{as:I bG}{Q:au->bb->Prop}(h:bi M A (nZ a en (gn a en)) (fun b s=>if b=k then bi M A (allTrue (tl k) as en) Q E s else Q b s) E s):bi M A (allTrue (tl k) (a::as) en) Q E s:=by
 cases k with
 |true=>exact alj (e7 h (fun b s h=>by cases b <;>exact h) fun _ _ x=>x)
 |false=>exact alk (e7 h (fun b s h=>by cases b <;>exact h) fun _ _ x=>x)
theorem Mp{k:au}{as:I bG}{es:I E}(pa:ir (SB X P C n ai) as es):∀ {J σ v af b A U s en},uz P C k es J σ=D (v,af)->eh af v=D b->dX X n A U s ai en J σ->
  bi (bv X.prog X.w) A (allTrue (tl k) as en) (fun fz bc=>fz=b/\kg X U s af bc fun _=>True) b4 s:=by
 induction pa with
 |nil=>exact fun h=>(Kz h).elim
 |cons aI has bh=>
  intro J σ v af iw A U s en h ax c
  cases has with
  |nil=>exact TE (aI J σ v af iw (KA.symm.trans h) ax A U s en c)
  |cons Ai has=>
   refine Ky h fun x aM b ag ah aN=>TD (aI.run ag ah c fun bm a2 cS bN=> ?_)
   by_cases q:b=k
   ·rw[a7 q]
    rw[a7 q]at aN
    exact e7 (bh aN ax bN) (fun v bc q=>⟨q.1,kg.trans cS q.2⟩) fun _ _ x=>x
   ·rw[bz q]
    rw[bz q]at aN
    cases aN
    exact⟨bD (ah.symm.trans ax),bm,cS,bN.store,trivial⟩
theorem afD{as:I bG}{es:I E}{pos}(aI:ir (SB X P C n ai) as es):SB X P C n ai (.BoolOp .And as pos) (.and es):=fun J σ v af b h ax A U s en c=>alt (Mp (k:=ae) aI h ax c)
theorem afI{as:I bG}{es:I E}{pos}(aI:ir (SB X P C n ai) as es):SB X P C n ai (.BoolOp .Or as pos) (.or es):=fun J σ v af b h ax A U s en c=>alt (Mp (k:=aw) aI h ax c)
end
end
section
open PySem.SeqAt
section
variable {X:c0}{U bj:cu}{h aD:bP}{ai:cR}{en:e6}{J:Loc}{σ aM bS:St}{P:c4}{C:Cl}{n:H}{A:ea}{s:bb}
noncomputable def xQ:bG->au|.Slice .. =>aw|_=>ae
theorem vH{e:bG}(he:xQ e=ae)(o i:al):H5 e aw o i=operate [o,i] (yN o i):=by
 cases e <;>first|rfl|cases he
theorem bK.cut{vs:I V}{xs:I al}(r:bK U h vs xs)(lo hi:aJ O):bK U h (KK.cut vs lo hi) (KK.cut xs lo hi):=by
 unfold KK.cut
 rw[r.length]
 exact(r.drop _).take _
theorem aaY{α:Type}{l:I α}{j:O}{x:α}(h:q9 l j=D x):∃m,RS j l.length=D m/\l[m]?=D x/\ -(2 ^ 63)<=j/\j < 2 ^ 63:=by
 have Pp:∀ {k:O} {m:H},(if j < 0 then j+l.length else j)=k->k=(m:O)->m < l.length->RS j l.length=D m:=fun aT aX hm=>by
  unfold RS
  rw[aT,aX]
  exact a7 (ei.mpr ⟨cW (kd _),cW (fv.mpr hm)⟩)
 refine ey h fun ag h=> ?_
 have LF:j < 2 ^ 63:=v3 ag (by decide)
 by_cases h0:0<=j
 ·rw[a7 h0]at h
  exact⟨_,Pp (bz (Ci.mpr h0)) (QW h0).symm (fj.mp h).1,h,v2 (by decide) h0,LF⟩
 ·rw[bz h0]at h
  refine ey h fun ah h=>⟨_,Pp (a7 (tQ.mp h0)) (QW ah.2).symm (fj.mp h).1,h,v2 (by decide) ah.1,LF⟩
section
variable {i v:V}{b:al}{Q:al->bb->Prop}{value slice:bG}
theorem PF{l:aQ}{aS:dD al}{vs:I V}(hz:B6 vs i=D v)(aj:s.heap.IsList l aS)(aH:bK U s.heap vs aS.toList)(bo:aU U s.heap i b)(aY:xQ slice=ae)(q:∀val tk,aU U s.heap v val->Q val {s with toks:=tk}):
  bi (bv X.prog X.w) A (subscriptTail value slice (.ref l) b) Q b4 s:=br hz fun j aT e=>ey e fun cg e=>aU.gP (bo.to (V.kx aT)) fun t=>(aH.get e).elim fun x r=>tX aj.typeIs ald.lookup (wpAny_getItem_list aj cg.1 (v3 cg.2 (by decide)) (n3.symm.trans r.1) (q x s.toks r.2)) (vH aY _ _)
theorem ahA{aW:gp}{kvs:I (V×V)}{p:aQ×aQ}(dw:A.units+16 < cLine)(am:aW.ok i=ae)(hz:cx kvs i=D v)(cr:iP X U s.heap (.dict aW kvs) p)(bo:aU U s.heap i b)(aY:xQ slice=ae)(q:∀val tk,aU U s.heap v val->Q val {s with toks:=tk}):
  bi (bv X.prog X.w) A (subscriptTail value slice (.ref p.1) b) Q b4 s:=by
 cases aW with
 |i=>
  obtain⟨j,rfl⟩:=AA am
  exact aU.gP bo fun t=>cr.2.elim fun b5 d=>(hX.get (pb.found d.2) hz).elim fun x r=>tX d.1.typeIs RU.lookup (als sL d.1.mapOf r.1 (q x _ r.2)) (vH aY _ _)
 |s=>
  obtain⟨j,rfl⟩:=BQ am
  exact aU.mO bo fun t=>cr.2.elim fun b5 d=>(hX.get (jk.found d.2) hz).elim fun x r=>tX d.1.typeIs RU.lookup (als (yO X.prog X.w j t) d.1.mapOf r.1 (q x _ r.2)) (vH aY _ _)
 |t=>
  obtain⟨ag,ah⟩:=ei.mp am
  obtain⟨_,xs,dO,cM⟩:=cr
  obtain⟨ad,rfl⟩:=x0 ag bo
  refine(hX.get (gr.found cM) hz).elim fun x r=> ?_
  obtain⟨y,aT,rfl⟩:=Cu.mp r.1
  exact tX dO.typeIs RU.lookup (wpAny_getItem_heap (knd:=vL X.prog X.w) (rL dw) (bo.pr 5 ah) dO aT (q _ _ r.2)) (vH aY _ _)
theorem G4{o:V}{a:al}(dw:A.units+16 < cLine)(hz:ee σ o i=D v)(R:bX X U σ s.heap)(aA:aU U s.heap o a)(bo:aU U s.heap i b)(aY:xQ slice=ae)(q:∀val tk,aU U s.heap v val->Q val {s with toks:=tk}):
  bi (bv X.prog X.w) A (subscriptTail value slice a b) Q b4 s:=by
 cases o with
 |obj n=>
  refine br hz fun c aE hz=> ?_
  cases c with
  |list vs=>exact aU.listE R aE aA fun l aS aj aH=>PF hz aj aH bo aY q
  |dict aW kvs=>exact ey hz fun am hz=>aU.zw R aE aA fun p ao cr=>ahA dw am hz cr bo aY q
  |inst _ _=>exact cD hz
 |ab vs=>exact br hz fun j aT e=>aU.jD aA fun t aS aP _ aH=>aU.gP (bo.to (V.kx aT)) fun u=>(aaY e).elim fun m w=>(aH.get w.2.1).elim fun x r=>tX aP.typeIs HP.lookup (getItem_tuple aP w.2.2.1 w.2.2.2 (aH.size▸w.1) (n3.symm.trans r.1) (q x s.toks r.2)) (vH aY _ _)
 |lst vs=>exact aU.k5 aA fun l aS aj _ aH=>PF hz aj aH bo aY q
 |str st=>
  refine br hz fun j aT e=>ey e fun cg e=>aU.mO aA fun t=>aU.gP (bo.to ((V.kx aT).trans (bs V.int cg))) fun u=> ?_
  obtain⟨Wf,aE,e⟩:=Cu.mp e
  have h0:0 < st.length:=(ajD.mp aE).1
  have ag:seqIndex? 0 st.length=D 0:=a7 (ei.mpr ⟨rfl,cW (fv.mpr h0)⟩)
  exact tX (typeIs_str _ _ _) slot_str_getitem.lookup (getItem_str (i:=0) (c:=Wf) (by decide) (by rw[ag];exact aE) (q _ _ (e▸⟨_,rfl⟩))) (vH aY _ _)
 |none|bool _|int _=>exact cD hz
end
theorem agg{l r:bG}{a b:E}{pos}(aY:xQ r=ae)(aI:bQ X P C n ai l a)(ax:bQ X P C n ai r b):bQ X P C n ai (.Subscript l r pos) (.sub a b):= .intro fun J σ A U s en c x aM ag y bS ah z aN=>HO (aI.run ag c fun bm a2 jF cS bN fu=>ax.run ah bN fun cC bC tJ b3 ch hE=>G4 (lc c.room) aN ch.store (fu.step b3.step (by simp)) hE aY fun val tk w=>kn (cS.trans b3) ch.store w)
theorem abP(l:I al)(lo hi:aJ O):kms_pick l lo hi=KK.cut l lo hi:=by
 unfold kms_pick KK.cut
 have aT:∀n,kms_lo lo n=ix lo n:=fun n=>by cases lo <;>rfl
 have aX:∀n,kms_hi hi n=mn hi n:=fun n=>by cases hi <;>rfl
 rw[aT,aX]
theorem JP(x:O)(k:H):(if x < 0 then max (x+(k:O)) 0 else min x (k:O))=((if x < 0 then k - (-x).toNat else min x.toNat k:H):O):=by
 cases x with
 |ofNat m=>
  show min (m:O) (k:O)=((min m k:H):O)
  rcases Nat.le_total m k with l|l
  ·rw[ako l,Int.min_eq_left (oW.mpr l)]
  ·rw[Nat.min_eq_right l,Int.min_eq_right (oW.mpr l)]
 |negSucc m=>
  rw[a7 (ajO m),a7 (ajO m)]
  show max (Int.negSucc m+(k:O)) 0=((k - (m+1):H):O)
  rw[<-Int.toNat_eq_max,Int.add_comm]
  exact bs _ (Int.toNat_sub k (m+1))
theorem TB(lo hi:aJ O)(k:H):akH lo hi 1 (k:O)=(((ix lo k:H):O),((mn hi k:H):O)):=by
 have aT:(match lo with|none=>if(1:O) < 0 then(k:O)else 0|some x=>if x < 0 then max (x+(k:O)) 0 else min x (k:O))=((ix lo k:H):O):=by
  cases lo with
  |none=>rfl
  |some x=>exact JP x k
 have aX:(match hi with|none=>if(1:O) < 0 then 0 else(k:O)|some x=>if x < 0 then max (x+(k:O)) 0 else min x (k:O))=((mn hi k:H):O):=by
  cases hi with
  |none=>rfl
  |some x=>exact JP x k
 exact Prod.ext aT aX
theorem aev(a b:H):HR (a:O) (b:O) 1=b - a:=by
 rcases qi b a with l|l
 ·unfold HR
  rw[a7 (by decide),bz (Ci.mpr (oW.mpr (kf l))),Rm (kf l)]
  rfl
 ·exact places_from a b l
theorem Pd{M:wc}{E:al->bb->Prop}{x:al}{k:aJ O}{Q:aJ O->bb->Prop}(ao:l7 x k)(q:Q k s):bi (bv X.prog X.w) A (amZ x) Q E s:=by
 cases ao with
 |none=>exact akG q
 |int i t=>exact slicePart_int q
theorem TP{ai:aQ}{il jG:al}{lo hi:aJ O}{k:H}{E:al->bb->Prop}{Q:O×O×H->bb->Prop}(aY:s.heap.IsSliceOf ai il jG .none)(gv:l7 il lo)(pu:l7 jG hi)
  (q:Q ((ix lo k:H),1,mn hi k - ix lo k) s):bi (bv X.prog X.w) A (akI (.ref ai) (pure (k:O))) Q E s:=by
 obtain⟨os,oq,Am,q4⟩:=id aY
 unfold akI amY
 refine b9 (b9 (yP oq q4 (x:=il) rfl (b9 (yP oq q4 (x:=jG) rfl (b9 (yP oq q4 (x:= .none) rfl (dE ?_)))))))
 refine b9 (akG ?_)
 show bi _ _ (if((1:O)==0)=ae then _ else _) _ _ s
 rw[bz (by decide)]
 refine b9 (Pd (M:=bv X.prog X.w) gv (b9 (Pd (M:=bv X.prog X.w) pu (b9 (dE ?_)))))
 show bi _ _ (match akH lo hi 1 (k:O)with|(lo,hi)=>pure (lo,(1:O),HR lo hi 1)) _ _ s
 rw[TB]
 show bi _ _ (pure (((ix lo k:H):O),(1:O),HR ((ix lo k:H):O) ((mn hi k:H):O) 1)) _ _ s
 rw[aev]
 exact dE q
theorem aep(xs:dD al)(a m:H):((gl m).filterMap fun(k:H)=>xs[((a:O)+(k:O) * 1).toNat]?).toArray=((xs.toList.drop a).take m).toArray:=by
 have e:(fun(k:H)=>xs[((a:O)+(k:O) * 1).toNat]?)=fun k=>xs[a+k]?:=by
  funext k
  rw[ajM]
  rfl
 rw[e]
 have:=pick_run xs a m
 rw[List.filterMap_map]at this
 have aX:((fun x=>xs[x]?)∘ fun x=>a+x)=fun k=>xs[a+k]?:=rfl
 rw[aX]at this
 rw[this]
theorem adj{lo hi:aJ O}{n:H}(h:min (mn hi n - ix lo n) (n - ix lo n) < n):¬((((ix lo n:H):O)==0 && (1:O)==1 && (mn hi n - ix lo n)==n)=ae):=fun q=>by
 obtain⟨a6,bl⟩:=ei.mp q
 have aT:ix lo n=0:=fM (ip.mp (ei.mp a6).1)
 rw[ip.mp bl,aT,aky,akp]at h
 exact v7 _ h
theorem Zt{t ai:aQ}{dd:dD al}{il jG:al}{lo hi:aJ O}{E:al->bb->Prop}{Q:al->bb->Prop}(aP:ji s.heap t dd)(aY:s.heap.IsSliceOf ai il jG .none)(gv:l7 il lo)(pu:l7 jG hi)
  (gL:(KK.cut dd.toList lo hi).length < dd.size) (lF:dd.size<=kP)
  (h:Q (.ref s.heap.objs.size) {s with heap:=s.heap.push {cls:= .type "tuple",data:= .seq (KK.cut dd.toList lo hi).toArray}}):bi (bv X.prog X.w) A (yN (.ref t) (.ref ai)) Q E s:=by
 have An:sizeOk (.seq (KK.cut dd.toList lo hi).toArray):=by
  exact cp (kf gL) lF
 obtain⟨os,oq,Am,q4⟩:=id aY
 have Ah:s.TypeIs (.ref ai) "slice" :=⟨os,oq,Am⟩
 unfold yN
 try with_reducible refine yQ ?_
 first|refine b9 (dE ?_)|skip
 refine b9 (aly aP.typeIs (by decide) ?_)
 refine b9 (aln (name:=hS "__getitem__") aP.typeIs HP
  (t3 HP aP.typeIs entry_tuple_getitem ?_ (args_tuple_getitem _ _)))
 show bi _ _ (Ru (.ref t) >>=_) _ _ s
 refine b9 (tupleItemsOf_ aP ?_)
 refine b9 (alD Ah ?_)
 rw[a7 (by decide)]
 refine b9 (TP aY gv pu ?_)
 have aE:KK.cut dd.toList lo hi=(dd.toList.drop (ix lo dd.size)).take (mn hi dd.size - ix lo dd.size):=by unfold KK.cut;rw[Cg]
 have EQ:=adj (lo:=lo) (hi:=hi) (n:=dd.size) (by rw[aE,List.length_take,aj3,Cg]at gL;exact gL)
 show bi _ _ (if(((ix lo dd.size:H):O)==0 && (1:O)==1 && (mn hi dd.size - ix lo dd.size)==dd.size)=ae then _ else _) _ _ s
 rw[bz EQ,aep]
 rw[<-aE]
 first
  |exact b9 (m:=HS _) (CD (dE ⟨_,rfl,dE h⟩) An)
  |exact b9 (m:=HS _) (CD (b9 (dE (dE ⟨_,rfl,dE h⟩))) An)
  |exact b9 (b9 (m:=HS _) (CD (dE (dE ⟨_,rfl,dE h⟩)) An))
  |exact b9 (b9 (m:=HS _) (CD (dE ⟨_,rfl,dE h⟩) An))
noncomputable def wo(X:c0)(P:c4)(C:Cl)(n:H)(ai:cR):aJ bG->aJ E->Prop
 |none,aa=>True
 |some a,D e=>bQ X P C n ai a e
 |_,_=>False
theorem wo.run{a:aJ bG}{e:aJ E}{k:aJ O}{Q:al->bb->Prop}(h:wo X P C n ai a e)(he:uA P C e J σ=D (k,aM))(c:dX X n A U s ai en J σ)
  (q:∀bm a2 val,Reach [] U s bm a2->dX X n A bm a2 ai en J aM->l7 val k->Q val a2):bi (bv X.prog X.w) A (evalPart a en) Q b4 s:=by
 cases e with
 |none=>
  cases a with
  |some _=>exact h.elim
  |none=>
   rw[RP]
   exact ff (ar:=fun k aM=>(∀bm a2 val,Reach [] U s bm a2->dX X n A bm a2 ai en J aM->l7 val k->Q val a2)->bi (bv X.prog X.w) A (pure .none) Q b4 s) he (fun q=>dE (q U s .none (Reach.refl ..) c .none)) q
 |some e=>
  cases a with
  |none=>exact h.elim
  |some a=>
   rw[evalPart_some]
   exact br he fun p ag he=>Ay (f:=fun i=>D (D i,p.2)) he fun i aT he=>bQ.run h (aT▸ag:_=D (V.int i,p.2)) c fun bm a2 val r bN w=>aU.gP w fun t=>q bm a2 _ r (by rw[<-(qj (bD he)).2];exact bN) (by rw[<-(qj (bD he)).1];exact .int _ _)
theorem WC{vs:I V}{t ai:aQ}{aS:dD al}{il jG:al}{dG cZ:aJ O}{value slice:bG}(aY:∀o i,H5 slice aw o i=operate [i,o] (yN o i))(R:bX X U σ s.heap)(aP:ji s.heap t aS)(aH:bK U s.heap vs aS.toList)(pK:s.heap.IsSliceOf ai il jG .none)(gv:l7 il dG)(pu:l7 jG cZ)
  (hz:vs.length<=a4/\(KK.cut vs dG cZ).length < vs.length):bi (bv X.prog X.w) A (subscriptTail value slice (.ref t) (.ref ai)) (dN X U s (.ab (KK.cut vs dG cZ)) σ) b4 s:=tX aP.typeIs HP.lookup (Zt aP pK gv pu (by rw[(aH.cut dG cZ).length,aH.size];exact hz.2) (by rw[aH.size];exact cp hz.1 (by decide))
  (dN.push (Reach.refl ..) R ⟨_,_,rfl,⟨_,iL _ rfl,rfl,0,rfl⟩,R.fq (iZ (dm _)),(aH.cut dG cZ).push _⟩)) (aY _ _)
theorem J4{vs:I V}{t ai:aQ}{aS:dD al}{il jG:al}{dG cZ:aJ O}{value slice:bG}{z:V}(aY:∀o i,H5 slice aw o i=operate [i,o] (yN o i))(R:bX X U σ s.heap)(aP:s.heap.IsList t aS)(aH:bK U s.heap vs aS.toList)(pK:s.heap.IsSliceOf ai il jG .none)(gv:l7 il dG)(pu:l7 jG cZ)
  (hz:DN dG cZ vs=D z):bi (bv X.prog X.w) A (subscriptTail value slice (.ref t) (.ref ai)) (dN X U s z σ) b4 s:=ey hz fun aj e=>bD e▸tX aP.typeIs ald.lookup (wpAny_getItem_list_slice aP pK gv pu .none (fun q=>nomatch q) (by
  rw[kms_pick_eq,abP]
  exact dN.push (Reach.refl ..) R ⟨_,_,rfl,⟨_,iL _ rfl,rfl,0,rfl⟩,R.fq (iZ (dm _)),(aH.cut dG cZ).push _⟩) (by rw[aH.size];exact cp aj (by decide))) (aY _ _)
theorem WB{o z:V}{a:al}{ai:aQ}{il jG:al}{dG cZ:aJ O}{value slice:bG}(aY:∀o i,H5 slice aw o i=operate [i,o] (yN o i))(hz:of σ o dG cZ=D z)(R:bX X U σ s.heap)(aA:aU U s.heap o a)(pK:s.heap.IsSliceOf ai il jG .none)(gv:l7 il dG)(pu:l7 jG cZ):
  bi (bv X.prog X.w) A (subscriptTail value slice a (.ref ai)) (dN X U s z σ) b4 s:=by
 cases o with
 |ab vs=>exact ey hz fun h e=>bD e▸aU.jD aA fun t aS aP _ aH=>WC aY R aP aH pK gv pu h
 |lst vs=>exact aU.k5 aA fun t aS aP _ aH=>J4 aY R aP aH pK gv pu hz
 |obj m=>exact br hz fun vs ag hz=>br ag fun c aE ag=>aU.listE R (aE.trans (bs D (Cell.list_eq ag))) aA fun t aS aP aH=>J4 aY R aP aH pK gv pu hz
 |none|bool _|int _|str _=>exact cD hz
theorem agd{l:bG}{lo up:aJ bG}{a:E}{x y:aJ E}{p pos}(aI:bQ X P C n ai l a)(aA:wo X P C n ai lo x)(bo:wo X P C n ai up y):bQ X P C n ai (.Subscript l (.Slice lo up aa p) pos) (.slice a x y):= .intro fun J σ A U s en c o aM ag dG bS ah cZ fT aN z b1=>HO (aI.run ag c fun bm a2 jF cS bN fu=>wpAny_Slice (aA.run ah bN fun cC bC il b3 ch gv=>bo.run aN ch fun fR dH jG gj fV pu=>by
  rw[RP]
  refine dE ?_
  have f3:=((cS.trans b3).trans gj).trans (Reach.push (s:=dH) (o:= {cls:= .type "slice",data:= .fields #[il,jG,.none]}))
  exact e7 (WB (fun _ _=>rfl) b1 (fV.store.keeps fun a dp e=>hJ _ e) (((fu.step b3.step (by simp)).step gj.step (by simp)).push _) (akU ..) gv pu) (fun v bc q=> .after f3 q) fun _ _ x=>x))
end
end
section
open PySem.SeqAt
structure pd(X:c0)(P:c4):Prop where
 fld:∀c a,P.fld c a=ae->a < 200/\pz X.K (X.ca c) (X.nm a)=ae
 b6:∀c m f,P.b6 c m=D f->plainGet X.K (X.ca c) (X.nm m)=ae/\findIn X.K (.ref (X.ca c)) (X.nm m)=D (D (.ref (X.jr f)))/\isFn X.K (.ref (X.jr f))=ae
 aa5:∀c,P.init c=D aa->makesIn X.K (X.ca c)=ae/\findIn X.K (.ref (X.ca c)) "__init__" =D (D (.builtin "object.__init__"))
 aa6:∀c f,P.init c=D (D f)->makesIn X.K (X.ca c)=ae/\findIn X.K (.ref (X.ca c)) "__init__" =D (D (.ref (X.jr f)))/\isFn X.K (.ref (X.jr f))=ae
section
variable {X:c0}{U bj:cu}{h aD:bP}{ai:cR}{en:e6}{J:Loc}{σ aM bS:St}{P:c4}{C:Cl}{n:H}{A:ea}{s:bb}
theorem D8{K:Frag}{C:aQ}{name:aK}(h:pz K C name=ae):plainGet K C name=ae/\hasDictIn K C=ae/\findIn K (.ref C) name=D aa/\findIn K (.ref C) "__setattr__" =D (D (.builtin "object.__setattr__"))/\plainOver K C=ae/\takerIn K C name=D aa:=by
 unfold pz at h
 obtain⟨h,c7⟩:=ei.mp h
 obtain⟨h,ef⟩:=ei.mp h
 obtain⟨h,b1⟩:=ei.mp h
 obtain⟨h,aN⟩:=ei.mp h
 obtain⟨ag,ah⟩:=ei.mp h
 exact⟨ag,ah,ip.mp aN,ip.mp b1,ef,ip.mp c7⟩
theorem hK.keys{fs:I (H×V)}{es:I g8}(c:hK X U h fs es):∀e∈es,∃x∈fs,∃t,e.key= .str (X.nm x.1) t:=by
 induction c with
 |nil=>exact fun e he=>nomatch he
 |cons k w _ bh=>
  intro e he
  cases he with
  |head=>exact⟨_,.head _,k⟩
  |tail _ he=>exact(bh e he).elim fun x q=>⟨x,.tail _ q.1,q.2⟩
theorem ND{e:g8}{x:aK}{t:kO}(k:e.key= .str x t):e.refKey=aw:=by unfold am1;rw[k]
theorem hK.noRef{fs:I (H×V)}{es:I g8}(r:hK X U h fs es):es.any (·.refKey)=aw:=QZ.mpr fun e he=>(r.keys e he).elim fun x q=>q.2.elim fun t q=>by rw[ND q];exact v1
theorem KJ{a:H}{v:V}{fs:I (H×V)}(q:mr fs a=D v):∃x∈fs,x.1=a:=by
 induction fs with
 |nil=>exact cD q
 |cons y r bh=>
  by_cases z:y.1=a
  ·exact⟨y,.head _,z⟩
  ·exact(bh ((bz z).symm.trans q)).elim fun x w=>⟨x,.tail _ w.1,w.2⟩
theorem xt{e:g8}{x y:aK}{t:kO}(k:e.key= .str x t):e.key.isStr y=(x==y):=by rw[k];rfl
theorem Zu{e:g8}{x:aK}{es:I g8}(k:e.key.isStr x=ae):getL x (e::es)=D (D e.val):=by unfold getL;rw[v5,k]
theorem Zw{e:g8}{x:aK}{es:I g8}(k:e.key.isStr x=aw)(r:e.refKey=aw):getL x (e::es)=getL x es:=by unfold getL;rw[v5,k,Ck,r,Ch]
theorem hK.get{fs:I (H×V)}{es:I g8}(c:hK X U h fs es):(∀x∈fs,x.1 < 200)->∀ {a:H} {v:V},mr fs a=D v->∃val,getL (X.nm a) es=D (D val)/\aU U h v val:=by
 induction c with
 |nil=>exact fun _ _ _ e=>cD e
 |@cons b u r e l k w c bh=>
  intro ax a v g
  obtain⟨t,k⟩:=k
  by_cases z:b=a
  ·exact⟨e.val,Zu (by rw[xt k,z];exact n2 _),bD ((a7 z).symm.trans g)▸w⟩
  ·have g':mr r a=D v:=(bz z).symm.trans g
   have aI:a < 200:=(KJ g').elim fun y q=>q.2▸ax y (.tail _ q.1)
   rw[Zw ((xt k).trans (n1.mpr fun q=>z (X.FR b a (ax _ (.head _)) aI q))) (ND k)]
   exact bh (fun y bo=>ax y (.tail _ bo)) g'
theorem hK.miss{fs:I (H×V)}{es:I g8}(r:hK X U h fs es){name:aK}(aZ:∀x∈fs,X.nm x.1≠name):getL name es=D aa:=by
 have:es.find? (·.key.isStr name)=aa:=ajV.mpr fun e he=>(r.keys e he).elim fun x q=>q.2.elim fun t k=>by
  rw[xt k,n1.mpr (aZ x q.1)];exact v1
 unfold getL
 rw[this,r.noRef];rfl
theorem Mb{c:H}{fs:I (H×V)}{p:aQ×aQ}(r:iP X U h (.inst c fs) p):∃es k,InstAt h p.1 ⟨.ref (X.ca c),D p.2,.plain, #[]⟩ (X.ca c) (D (dictOf es k))/\h.get? p.2=D (dictOf es k)/\hK X U h fs es:=r.2.elim fun es q=>q.elim fun k q=>⟨es,k,⟨r.1,rfl,rfl,q.1⟩,q.1,q.2.1⟩
theorem KP{c:H}{fs:I (H×V)}{p:aQ×aQ}(r:iP X U h (.inst c fs) p):∀x∈fs,x.1 < 200/\pz X.K (X.ca c) (X.nm x.1)=ae:=r.2.elim fun _ q=>q.elim fun _ q=>q.2.2
theorem ZN{v:V}{x:al}(r:aU U h v x):handedIn x=ae:=by
 cases v with
 |none=>rw[show x= .none from r];rfl
 |bool b=>rw[show x= .bool b from r];rfl
 |int i=>exact aU.gP r fun _=>rfl
 |str i=>exact aU.mO r fun _=>rfl
 |ab vs=>exact aU.jD r fun _ _ _ _ _=>rfl
 |lst vs=>exact aU.k5 r fun _ _ _ _ _=>rfl
 |obj m=>exact aU.objE r fun _ _=>rfl
theorem Ji{m:H}{c:H}{fs:I (H×V)}{a:H}{v:V}{x:al}(aE:σ[m]?=D (.inst c fs))(bR:mr fs a=D v)(R:bX X U σ s.heap)(aA:aU U s.heap (.obj m) x){expr:au}{Q:al->bb->Prop}
  (q:∀val tk,aU U s.heap v val->Q val {s with toks:=tk}):bi (bv X.prog X.w) A (getAttr x (X.nm a) expr) Q b4 s:=by
 refine aU.zw R aE aA fun p ao cr=> ?_
 have uG:=KP cr
 obtain⟨es,k,bB,_,f⟩:=Mb cr
 obtain⟨val,aT,aX⟩:=f.get (fun x aA=>(uG x aA).1) bR
 have nf:pz X.K (X.ca c) (X.nm a)=ae:=(KJ bR).elim fun y w=>w.2▸(uG y w.1).2
 obtain⟨f1,f2,kp,_⟩:=D8 nf
 exact get_value R.kw bB (RL f1).1 (findObj_own f2 kp rfl (by rw[RJ];exact aT)) (ZN aX) (q val _ aX)
noncomputable def m3:bG->au
 |.Call _ as _ _=> !as.isEmpty
 |_=>ae
theorem Jj{o:bG}(aR:m3 o=ae)(attr:aK)(env:e6)(whole:Sem al):attributeBase o attr env whole=whole:=by
 cases o with
 |Call f as fp p=>
  cases as with
  |nil=>cases aR
  |cons=>cases f <;>rfl
 |_=>rfl
theorem Xx{o:bG}{attr:aK}{pos:c3}{E:al->bb->Prop}{M:wc}{Q:al->bb->Prop}(aR:m3 o=ae)(h:bi (bv X.prog X.w) A (gn o en) (fun v a2=>bi (bv X.prog X.w) A (getAttr v attr ae) Q E a2) E s):
  bi (bv X.prog X.w) A (gn (.Attribute o attr pos) en) Q E s:=by
 refine Attribute_any_ h ?_
 rw[arm_eval_Attribute,Jj aR]
theorem afO{o:bG}{e:E}{a:H}{attr:aK}{pos:c3}(aR:m3 o=ae)(aI:X.nm a=attr)(h:bQ X P C n ai o e):bQ X P C n ai (.Attribute o attr pos) (.attr e a):= .intro fun J σ A U s en c i aM ag cl fs ah v aN=>Xx (M:=bv X.prog X.w) aR (h.run ag c fun bm a2 jF cS bN fu=>aI▸Ji ah aN bN.store fu fun val tk w=>kn cS bN.store w)
end
end
section
open PySem.SeqAt
section
variable {X:c0}{U bj:cu}{h aD:bP}{ai:cR}{en:e6}{J:Loc}{σ aM bS:St}{P:c4}{C:Cl}{n:H}{A:ea}{s:bb}
structure wm(X:c0)(P:c4):Prop where
 fn:∀f F,P.fn f=D F->(X.lC f).cps.size≠0->X.mg (X.lC f)=D (.ref (X.jr f))/\keepIn X.K (.ref (X.jr f))=ae
 cls:∀c i,P.init c=D i->X.mg (X.m6 c)=D (.ref (X.ca c))/\keepIn X.K (.ref (X.ca c))=ae
 aV:∀g v,P.aV g=D v->∃val,X.mg (X.jW g)=D val/\aU [] X.h₀ v val
theorem P8(R:bX X U σ h):Step [] U [] X.h₀ h:=⟨⟨U,rfl,R.above⟩,fun a o e _ _=>R.top a o e,fun a o e=>⟨o,R.top a o e⟩⟩
theorem AT{x:aK}{pos:c3}{v:al}{Q:al->bb->Prop}(c:dX X n A U s ai en J σ)(aA:x∈ai.fD)(aH:X.mg x=D v)(hd:(x==("__debug__" :aK))=aw)(q:Q v s):
  bi (bv X.prog X.w) A (gn (.Name x pos) en) Q b4 s:=akL c.env.kind (c.env.fD x aA) (Calls.loadGlobal_global (mg:=X.mg) (by rw[c.env.glob];exact X.fk.keeps c.store.top) aH q) hd
theorem Fo{x:aK}{pos:c3}{v:al}{Q:al->bb->Prop}(c:dX X n A U s ai en J σ)(aA:x∈ai.fD)(hm:X.mg x=aa)(aH:X.mb x=D v)(hd:(x==("__debug__" :aK))=aw)(q:Q v s):
  bi (bv X.prog X.w) A (gn (.Name x pos) en) Q b4 s:=akL c.env.kind (c.env.fD x aA) (Calls.loadGlobal_builtin (mg:=X.mg) (mb:=X.mb) (by rw[c.env.glob];exact X.fk.keeps c.store.top) hm (by rw[c.env.qJ];exact X.fX.keeps c.store.top) aH q) hd
theorem afY(wl:wm X P){x:aK}{g:H}{pos}(aA:x∈ai.fD)(bR:X.jW g=x)(hd:(x==("__debug__" :aK))=aw):bQ X P C n ai (.Name x pos) (.aV g):= .intro fun J σ A U s en c v ag=>(wl.aV g v ag).elim fun val q=>AT c aA (bR▸q.1) hd (done (Reach.refl ..) c.store (q.2.step (P8 c.store) (by simp)))
noncomputable def f0:bG->au|.Starred .. =>aw|_=>ae
theorem GV{a:bG}{as:I bG}(aI:f0 a=ae):n0 (a::as) en=(aw,gn a en)::n0 as en:=by
 cases a <;>first|rfl|cases aI
theorem NE{pos:c3}{as:I bG}(h:as.all f0=ae):(t2 pos (n0 as en)).any (·.1)=aw:=by
 induction as with
 |nil=>rfl
 |cons a as bh=>
  obtain⟨ag,ah⟩:=ei.mp h
  rw[GV ag]
  exact bh ah
theorem BH{as:I bG}{es:I E}(h:ir (bQ X P C n ai) as es)(aY:as.all f0=ae):qx X P C n ai as es:=by
 induction h with
 |nil=>exact agu
 |cons a b bh=>
  obtain⟨ag,ah⟩:=ei.mp aY
  exact agt a (bh ah) fun en=>GV ag
theorem qM{pos:c3}{f:al}{first:I al}{as:I bG}{es:I E}{vs:I V}{Q:al->bb->Prop}{Ph:bP->Prop}(aY:as.all f0=ae)
  (am:∀h,Ph h->∃k,(k=HX\/k=HY\/k=HW)/\yL (bv X.prog X.w) h (keeperOf f) k)
  (dx:ir (bQ X P C n ai) as es) (he:e3 P C es J σ=D (vs,aM)) (c:dX X n A U s ai en J σ)
  (k:∀bm a2 xs,Reach [] U s bm a2->dX X n A bm a2 ai en J aM->bK bm a2.heap vs xs->Ph a2.heap/\bi (bv X.prog X.w) A (call f (first++xs) []) Q b4 a2):
  bi (bv X.prog X.w) A (RO pos f first (t2 pos (n0 as en)) []) Q b4 s:=by
 cases as with
 |nil=>
  refine callWith_of rfl am (evalArgs_nil3 ?_)
  cases dx
  have e:=qj (bD (show D (_,_)=D (_,_)from he))
  exact k U s [] (Reach.refl ..) (e.2▸c) (e.1▸rfl)
 |cons a as=>
  have ag:=NE (en:=en) (pos:=pos) aY
  have e:=GV (en:=en) (as:=as) (ei.mp aY).1
  have:=(BH dx aY).run (pos:=pos) he c k
  rw[e]at ag this ⊢
  exact callWith_of (by rw[ag];rfl) am (Calls.evalArgs_plain this)
noncomputable def kh(X:c0)(C:Cl)(n:H):Prop:=∀f vs σ v af,C f vs σ=D (v,af)->∀A U s vals,r4 n A->bX X U σ s.heap->bK U s.heap vs vals->
 codeAny (bv X.prog X.w) A (.call (.ref (X.jr f)) ⟨vals,[]⟩) (fun r bc=>∃val,r= .ok (.ret val)/\dN X U s v af val bc) s
theorem kh.wp(dA:kh X C n){f:H}{vs:I V}{v:V}{vals:I al}(he:C f vs σ=D (v,af))(bg:r4 n A)(R:bX X U σ s.heap)(aH:bK U s.heap vs vals):
  bi (bv X.prog X.w) A (call (.ref (X.jr f)) vals []) (dN X U s v af) b4 s:=RW (H3 (dA f vs σ v af he A U s vals bg R aH) fun r bc q=>by
  obtain⟨val,rfl,q⟩:=q
  exact q)
noncomputable def n5(P:c4)(C:Cl):Prop:=∀f vs σ r,C f vs σ=D r->∃F,P.fn f=D F
theorem afR(wl:wm X P)(dA:kh X C n)(a5:n5 P C){x:aK}{f:H}{p pos:c3}{as:I bG}{es:I E}(aA:x∈ai.fD)(bH:X.lC f=x)(hz:x.cps.size≠0)(hd:(x==("__debug__" :aK))=aw)(aY:as.all f0=ae)
  (dx:ir (bQ X P C n ai) as es):bQ X P C n ai (.Call (.Name x p) as [] pos) (.call f es):= .intro fun J σ A U s en c vs aM ag v af ah=>by
 obtain⟨F,dZ⟩:=a5 _ _ _ _ ah
 obtain⟨hm,am⟩:=wl.fn f F dZ (bH▸hz)
 rw[CA]
 exact b9 (AT c aA (bH▸hm) hd (qM (first:=[]) aY (keeps_K am) dx ag c fun bm a2 xs r bN w=>⟨bN.store.kw,e7 (dA.wp ah bN.room.call bN.store w) (fun v bc q=> .after r q) fun _ _ x=>x⟩))
theorem aiE{CM:aQ}{rest:I al}(r:qw n A):r4 n (A.under (.builtin "type.__call__" ⟨.ref CM::rest,[]⟩)):=by
 have ag:(akN "type.__call__" ⟨.ref CM::rest,[]⟩).weight=1:=by kernel_rfl
 have ah:(akN "type.__call__" ⟨.ref CM::rest,[]⟩).cUnits=1:=by kernel_rfl
 refine⟨?_, ?_,r.2.2⟩
 ·show A.depth+_+2 * n+1 < recursionLimit
  rw[ag,jL A.depth]
  exact r.1
 ·show A.units+_+16 * n+60 < cLine
  rw[ah,jL A.units]
  exact c9 (qg (by decide:1+60<=64) _) r.2.1
theorem B3{o dp:db}{a:aQ}{x:db}(e:h.get? a=D x):((h.push o).push dp).get? a=D x:=hJ _ (hJ _ e)
theorem IT(R:bX X U σ h)(c:H):bX X (U++ [(h.objs.size+1,h.objs.size)]) (σ++ [.inst c []]) ((h.push emptyDict).push (instObj (X.ca c) h.objs.size))/\
  Step U (U++ [(h.objs.size+1,h.objs.size)]) [] h ((h.push emptyDict).push (instObj (X.ca c) h.objs.size)):=by
 refine R.alloc (iZ (eJ _)) (iZ (dm _)) (fun a o e=>B3 e) ⟨?_,[],0, ?_,.nil,by simp⟩
 ·have:=iL (h.push emptyDict) (o:=instObj (X.ca c) h.objs.size) rfl
  rwa [yK]at this
 ·exact hJ _ (iL _ rfl)
theorem TG(R:bX X U σ h){vs:I V}{xs:I al}(aH:bK U h vs xs):
  bX X (U++ [(h.objs.size,h.objs.size)]) (σ++ [.list vs]) (h.push {cls:= .type "list",data:= .seq xs.toArray})/\Step U (U++ [(h.objs.size,h.objs.size)]) [] h (h.push {cls:= .type "list",data:= .seq xs.toArray}):=by
 have S:Step U (U++ [(h.objs.size,h.objs.size)]) [] h (h.push {cls:= .type "list",data:= .seq xs.toArray}):=⟨⟨[_],rfl,fun p ao=>by simp at ao;subst ao;exact⟨iZ (dm _),iZ (dm _)⟩⟩,fun a o e _ _=>hJ _ e,fun a o e=>⟨o,hJ _ e⟩⟩
 exact R.alloc (iZ (dm _)) (iZ (dm _)) (fun a o e=>hJ _ e) ⟨rfl,_,⟨0,iL _ rfl⟩,by simpa using aH.step S (by simp)⟩
theorem TF(R:bX X U σ h)(k:gp):
  bX X (U++ [(h.objs.size,h.objs.size)]) (σ++ [.dict k []]) (h.push {cls:= .type "dict",data:= .dict #[]})/\Step U (U++ [(h.objs.size,h.objs.size)]) [] h (h.push {cls:= .type "dict",data:= .dict #[]}):=by
 refine R.alloc (iZ (dm _)) (iZ (dm _)) (fun a o e=>hJ _ e) ?_
 cases k with
 |i=>exact⟨rfl,[],akT _,.nil⟩
 |s=>exact⟨rfl,[],akT _,.nil⟩
 |t=>exact⟨rfl,[],am3 _,.nil⟩
theorem tc(R:bX X U σ h){p:aQ×aQ}:(U++ [p])[σ.length]?=D p:=by rw[<-R.len];simp
theorem af8{as:I bG}{es:I E}{pos}(h:ir (bQ X P C n ai) as es)(aY:as.all f0=ae)(hz:es.length<=1000):bQ X P C n ai (.List as pos) (.hC es):= .intro fun J σ A U s en c vs af ah=>wpAny_List ((BH h aY).run ah c fun bm a2 xs r bN x=>⟨by rw[x.length,zZ ah];exact cp hz (by decide),
  let q:=TG bN.store x;⟨_,r.trans ⟨⟨_,a2.toks,rfl⟩,q.2⟩,q.1,_,tc bN.store,rfl⟩⟩)
theorem af7{k:gp}{pos}:bQ X P C n ai (.Dict [] [] pos) (.iD k):= .intro fun J σ A U s en c=>
 let q:=TF c.store k;wpAny_Dict_empty ⟨_,⟨⟨_,s.toks,rfl⟩,q.2⟩,q.1,_,tc c.store,rfl⟩
theorem ac3(kT:pd X P){cl:H}(hi:P.init cl=D aa)(R:bX X U σ s.heap):bi (bv X.prog X.w) A (call (.ref (X.ca cl)) [] []) (dN X U s (.obj σ.length) (σ++ [.inst cl []])) b4 s:=by
 obtain⟨lM,pQ⟩:=kT.aa5 cl hi
 obtain⟨R',S⟩:=IT R cl
 have nw:=tc (p:=(s.heap.objs.size+1,s.heap.objs.size)) R
 obtain⟨bu,g,d,t,os⟩:=s
 have Y:=makes_of (M:=bv X.prog X.w) R.kw lM
 refine RW (make_core Y (ak2 R.kw pQ) (fun self=>Cy (oi_bind self)) (.inr ⟨rfl,rfl⟩) ?_)
 have aT:((bu.push emptyDict).push (instObj (X.ca cl) bu.objs.size)).get? (bu.objs.size+1)=D (instObj (X.ca cl) bu.objs.size):=by
  have:=iL (bu.push emptyDict) (o:=instObj (X.ca cl) bu.objs.size) rfl
  rwa [yK]at this
 have t1:yL (bv X.prog X.w) ((bu.push emptyDict).push (instObj (X.ca cl) bu.objs.size)) (typeOf (.ref (bu.objs.size+1))) (.ref (X.ca cl)):=(Looks.ld aT).andThen .now
 have fH:yL (bv X.prog X.w) ((bu.push emptyDict).push (instObj (X.ca cl) bu.objs.size)) (isInstance (.ref (bu.objs.size+1)) (.type "object")) ae:=t1.andThen (Y.top.keeps fun b o e=>B3 e)
 refine codeAny_call_builtin oi_plain entry_oi (@check_slot (bv X.prog X.w) _ _ _ "object.__init__" "object" "__init__" (.ref (bu.objs.size+1)) [] [] _ oi_kind oi_split fH (oi_args (.ref (bu.objs.size+1))) ?_)
 show bi _ _ (HQ.«object.__init__» ⟨[.ref (bu.objs.size+1)],[]⟩) _ _ _
 rw[oi_run]
 exact dE (And.intro rfl ⟨_,⟨⟨_,t,rfl⟩,S⟩,R',_,nw,rfl⟩)
theorem ac1(kT:pd X P)(dA:kh X C n){cl f:H}{vs:I V}{xs:I al}{aF:St}(hi:P.init cl=D (D f))(room:qw n A)(R:bX X U σ s.heap)(w:bK U s.heap vs xs)(aN:C f (.obj σ.length::vs) (σ++ [.inst cl []])=D (.none,aF)):
  bi (bv X.prog X.w) A (call (.ref (X.ca cl)) xs []) (dN X U s (.obj σ.length) aF) b4 s:=by
 obtain⟨lM,pQ,FF⟩:=kT.aa6 cl f hi
 obtain⟨R',S⟩:=IT R cl
 have nw:=tc (p:=(s.heap.objs.size+1,s.heap.objs.size)) R
 obtain⟨bu,g,d,t,os⟩:=s
 refine RW (make_core (makes_of (M:=bv X.prog X.w) R.kw lM) (ak2 R.kw pQ) (fun self=>bind_fn R.kw self (ip.mp FF)) (.inl rfl) ?_)
 refine H3 (dA f _ _ _ _ aN _ (U++ [(bu.objs.size+1,bu.objs.size)]) ⟨(bu.push emptyDict).push (instObj (X.ca cl) bu.objs.size),g,d,t,os⟩ _ (aiE room) R' ⟨_,_,rfl,⟨_,nw,rfl⟩,w.step S (by simp)⟩) fun vz bc q=> ?_
 obtain⟨val,e,cC,b3,mh,q⟩:=q
 rw[e]
 exact⟨q,cC,(Reach.trans ⟨⟨_,t,rfl⟩,S⟩ b3),mh,_,b3.step.get nw,rfl⟩
theorem af6(wl:wm X P)(kT:pd X P)(dA:kh X C n){x:aK}{cl:H}{p pos:c3}{as:I bG}{es:I E}(aA:x∈ai.fD)(bH:X.m6 cl=x)(hd:(x==("__debug__" :aK))=aw)(aY:as.all f0=ae)
  (dx:ir (bQ X P C n ai) as es):bQ X P C n ai (.Call (.Name x p) as [] pos) (.new cl es):= .intro fun J σ A U s en c vs aM ag=>by
 have go:∀ {i:aJ H} {v:V} {aF:St},P.init cl=D i->(∀bm a2 xs,qw n A->bX X bm aM a2.heap->bK bm a2.heap vs xs->bi (bv X.prog X.w) A (call (.ref (X.ca cl)) xs []) (dN X bm a2 v aF) b4 a2)->
   bi (bv X.prog X.w) A (gn (.Call (.Name x p) as [] pos) en) (dN X U s v aF) b4 s:=fun hi k=>by
  obtain⟨hm,am⟩:=wl.cls cl _ hi
  rw[CA]
  exact b9 (AT c aA (bH▸hm) hd (qM (first:=[]) aY (keeps_K am) dx ag c fun bm a2 xs r bN w=>⟨bN.store.kw,e7 (k bm a2 xs bN.room bN.store w) (fun v bc q=> .after r q) fun _ _ x=>x⟩))
 exact⟨fun hi e=>go hi fun bm a2 xs _ R w=>by rw[e]at w;rw[show xs=[]from w];exact ac3 kT hi R,fun f hi aF aN=>go hi fun bm a2 xs room R w=>ac1 kT dA hi room R w aN⟩
end
end
section
open PySem.SeqAt
section
variable {X:c0}{U bj:cu}{h aD:bP}{ai:cR}{en:e6}{J:Loc}{σ aM bS:St}{P:c4}{C:Cl}{n:H}{A:ea}{s:bb}
theorem D5{o:bG}{name:aK}{gs pos:c3}{as:I bG}{Q:al->bb->Prop}(aR:m3 o=ae)(ao:(gs.endLine==pos.line)=ae)(aY:as.all f0=ae)(aj:as.length < 30)
  (h:∀gv,bi (bv X.prog X.w) A (gn o en) (fun cO a2=>bi (bv X.prog X.w) A (getMethod cO name gv) (fun z7 bC=>bi (bv X.prog X.w) A (RO pos z7.1 z7.2 (t2 pos (n0 as en)) []) Q b4 bC) b4 a2) b4 s):
  bi (bv X.prog X.w) A (gn (.Call (.Attribute o name gs) as [] pos) en) Q b4 s:=by
 have Z9:methodCallForm (as.length+([]:I Keyword).length) (t2 pos (n0 as en)) (backToKw pos (keywordEach [] en))=ae:=by
  have ah:(t2 pos (n0 as en)).all (fun x=> !x.1)=ae:=by
   rw[List.all_eq_not_any_not]
   simp only[Bool.not_not]
   rw[NE aY];rfl
  unfold methodCallForm
  rw[ah]
  exact cW aj
 rw[arm_eval_Call,Jj aR]
 refine b9 (e7 (h (do return (<-importBound o en).getD ae)) (fun cO a2 jZ=>b9 (H8 ?_)) fun _ _ x=>x)
 unfold methodCall
 rw[Z9]
 refine b9 (yQ ?_)
 show bi _ _ (getMethod cO name (do return (<-importBound o en).getD ae)) _ _ _
 refine e7 jZ (fun z7 bC kv=> ?_) fun _ _ x=>x
 obtain⟨f,first⟩:=z7
 show bi _ _ (methodCallPos ae o en gs pos >>=fun Wb=>RO Wb f first (t2 pos (n0 as en)) (backToKw pos (keywordEach [] en))) _ _ _
 have aaz:methodCallPos ae o en gs pos=pure pos:=by
  unfold methodCallPos
  rw[ao];rfl
 rw[aaz]
 exact b9 (dE kv)
theorem af4(kT:pd X P)(dA:kh X C n)(a5:∀c m f,P.b6 c m=D f->keepIn X.K (.ref (X.jr f))=ae){o:bG}{name:aK}{gs pos:c3}{as:I bG}{e:E}{es:I E}{m:H}
  (aR:m3 o=ae) (ao:(gs.endLine==pos.line)=ae) (aY:as.all f0=ae) (aj:as.length < 30) (hm:X.nm m=name) (h0:bQ X P C n ai o e) (dx:ir (bQ X P C n ai) as es):
  bQ X P C n ai (.Call (.Attribute o name gs) as [] pos) (.b6 e m es):= .intro fun J σ A U s en c i aM ag cl fs aE f bH vs bS aN v af b1=>by
 refine D5 aR ao aY aj fun gv=>h0.run ag c fun bm a2 jF cS bN fu=>aU.zw bN.store aE fu fun p ao cr=> ?_
 obtain⟨a6,bl,cF⟩:=kT.b6 cl m f bH
 obtain⟨nc,k,bB,_,w1⟩:=Mb cr
 have miss:getL (X.nm m) nc=D aa:=w1.miss fun x aA e=>nomatch (e▸(D8 (KP cr x aA).2).2.2.1:findIn X.K _ (X.nm m)=D aa).symm.trans bl
 rw[<-hm]
 exact method_fn bN.store.kw bB (RL a6).1 (RL a6).2 bl (ip.mp cF) (by show(lookIn (X.nm m) (dictOf nc k)).map _=_;rw[RJ,miss];rfl)
  (qM (first:=[.ref p.1]) aY (keeps_K (a5 _ _ _ bH)) dx aN bN fun cC bC xs b3 ch w=>⟨ch.store.kw,
   e7 (dA.wp b1 ch.room.call ch.store ⟨_,_,rfl,⟨p,b3.step.get ao,rfl⟩,w⟩) (fun v bc q=> .after (cS.trans b3) q) fun _ _ x=>x⟩)
theorem sW{id:yR}:∀h,True->∃k,(k=HX\/k=HY\/k=HW)/\yL (bv X.prog X.w) h (keeperOf (.builtin id)) k:=fun h _=>⟨.machine,.inr (.inl rfl),Cy rfl⟩
theorem Nb{id:yR}:∀h,True->∃k,(k=HX\/k=HY\/k=HW)/\yL (bv X.prog X.w) h (keeperOf (.type id)) k:=fun h _=>⟨.machine,.inr (.inl rfl),Cy rfl⟩
theorem wI{o:bG}{gs pos:c3}{as:I bG}{e:E}{es:I E}{i:H}{vs:I V}{T:yR}{name:aK}{id:yR}{Q:al->bb->Prop}(tq:PlainAttrs T)(agN:Slot T name id)(aaN:typeOf (.builtin id)=pure (.type "method_descriptor"))
  (aR:m3 o=ae) (ao:(gs.endLine==pos.line)=ae) (aY:as.all f0=ae) (aj:as.length < 30) (h0:bQ X P C n ai o e) (dx:ir (bQ X P C n ai) as es)
  (ag:aG P C e J σ=D (.obj i,aM)) (ah:e3 P C es J aM=D (vs,bS)) (c:dX X n A U s ai en J σ)
  (fa:∀(U:cu) (h:bP) p,U[i]?=D p->bX X U aM h->∃o,h.get? p.1=D o/\o.cls= .type T/\o.dict=aa)
  (k:∀cC bC p xs,Reach [] U s cC bC->dX X n A cC bC ai en J bS->cC[i]?=D p->bK cC bC.heap vs xs->bi (bv X.prog X.w) A (call (.builtin id) (.ref p.1::xs) []) Q b4 bC):
  bi (bv X.prog X.w) A (gn (.Call (.Attribute o name gs) as [] pos) en) Q b4 s:=by
 refine D5 aR ao aY aj fun gv=>h0.run ag c fun bm a2 jF cS bN fu=> ?_
 obtain⟨p,ao,rfl⟩:=fu
 obtain⟨vj,a6,bl,cF⟩:=fa bm a2.heap p ao bN.store
 refine ala ⟨vj,a6,bl⟩ tq agN aaN (fun a e=>by cases e;exact⟨vj,a6,cF⟩) ?_
 exact qM (Ph:=fun _=>True) (first:=[.ref p.1]) aY sW dx ah bN fun cC bC xs b3 ch w=>⟨trivial,k cC bC p xs (cS.trans b3) ch (b3.step.get ao) w⟩
theorem Mi{i:H}{vs:I V}(aE:σ[i]?=D (.list vs)):∀(U:cu) (h:bP) p,U[i]?=D p->bX X U σ h->∃o,h.get? p.1=D o/\o.cls= .type "list" /\o.dict=aa:=fun U h p ao R=>by
 obtain⟨_,aS,⟨k,aj⟩,_⟩:=R.cells _ _ _ aE ao
 exact⟨_,aj,rfl,rfl⟩
theorem DR{K:Type}[kK K]{prog:g9}{w:World}{knd:KeyKind prog w K}{a:aQ}{b5:I (K×al)}(d:h.DictOf knd a b5):∃o,h.get? a=D o/\o.cls= .type "dict" /\o.dict=aa:=by obtain⟨o,_,_,aR,aA,_⟩:=d;exact⟨o,aR,aA.1,aA.2.1⟩
theorem WR{K:Type}[kK K]{prog:g9}{w:World}{knd:Cw prog w K}{a:aQ}{b5:I (K×aQ×al)}(d:h.DictOfH knd a b5):∃o,h.get? a=D o/\o.cls= .type "dict" /\o.dict=aa:=by obtain⟨o,_,_,aR,aA,_⟩:=d;exact⟨o,aR,aA.1,aA.2.1⟩
theorem abf{i:H}{aW:gp}{kvs:I (V×V)}(aE:σ[i]?=D (.dict aW kvs)):∀(U:cu) (h:bP) p,U[i]?=D p->bX X U σ h->∃o,h.get? p.1=D o/\o.cls= .type "dict" /\o.dict=aa:=fun U h p ao R=>by
 have:=R.cells _ _ _ aE ao
 cases aW with
 |i=>exact this.2.elim fun _ q=>DR q.1
 |s=>exact this.2.elim fun _ q=>DR q.1
 |t=>exact this.2.elim fun _ q=>WR q.1
theorem Bz{k:H}(h:k < a4):k<=kP:=cp (kf h) (by decide)
theorem BA{k:H}(h:k<=a4):k<=kP:=cp h (by decide)
theorem Bu{i:H}{p:aQ×aQ}{us:I V}{aS jts:dD al}{k:H}(R:bX X U σ h)(ao:U[i]?=D p)(aj:h.get? p.1=D {cls:= .type "list",data:= .seq aS k})(hd:p.2=p.1){f:dD al->dD al}(bH:f aS=jts)(aH:bK U h us jts.toList):
  bX X U (σ.set i (.list us)) (h.update p.1 (qm f))/\Step U U [] h (h.update p.1 (qm f)):=by
 have e:(h.update p.1 (qm f)).get? p.1=D (qm f {cls:= .type "list",data:= .seq aS k}):=HV _ aj rfl
 have S:Step U U [] h (h.update p.1 (qm f)):=Step.F4 (Cv ..) ⟨_,e⟩ (.inl ⟨p,im ao,.inl rfl⟩)
 refine R.put ao (.inl rfl) (Cv ..) ⟨hd,jts,⟨(if(f aS).size==aS.size then k else k+1), ?_⟩,aH.step S (by simp)⟩
 rw[e,<-bH];rfl
theorem abh{i:H}(aE:re σ (.obj i)=ae):∃vs,σ[i]?=D (.list vs):=by
 replace aE:(match σ[i]? with|some (.list _)=>ae|_=>aw)=ae:=aE
 cases q:σ[i]? with
 |none=>rw[q]at aE;cases aE
 |some c=>rw[q]at aE;cases c <;>first|exact⟨_,rfl⟩|cases aE
theorem abe{i:H}(aE:rc σ (.obj i)=ae):∃aW kvs,σ[i]?=D (.dict aW kvs):=by
 replace aE:(match σ[i]? with|some (.dict _ _)=>ae|_=>aw)=ae:=aE
 cases q:σ[i]? with
 |none=>rw[q]at aE;cases aE
 |some c=>rw[q]at aE;cases c <;>first|exact⟨_,_,rfl⟩|cases aE
theorem Mh{i:H}(aE:re σ (.obj i)=ae):∀(U:cu) (h:bP) p,U[i]?=D p->bX X U σ h->∃o,h.get? p.1=D o/\o.cls= .type "list" /\o.dict=aa:=(abh aE).elim fun _ e=>Mi e
theorem Me{i:H}(aE:rc σ (.obj i)=ae):∀(U:cu) (h:bP) p,U[i]?=D p->bX X U σ h->∃o,h.get? p.1=D o/\o.cls= .type "dict" /\o.dict=aa:=(abe aE).elim fun _ q=>q.elim fun _ e=>abf e
theorem bK.one{v:V}{x:al}(w:aU U h v x):bK U h [v] [x]:=⟨x,[],rfl,w,rfl⟩
theorem bK.vl{v:V}{xs:I al}{P:I al->Prop}(w:bK U h [v] xs)(k:∀x,aU U h v x->P [x]):P xs:=by obtain⟨x,_,rfl,a9,rfl⟩:=w;exact k x a9
theorem bK.Qh{v u:V}{xs:I al}{P:I al->Prop}(w:bK U h [v,u] xs)(k:∀x y,aU U h v x->aU U h u y->P [x,y]):P xs:=by obtain⟨x,_,rfl,a9,y,_,rfl,bE,rfl⟩:=w;exact k x y a9 bE
theorem so{e:E}{v:V}(h:aG P C e J σ=D (v,aM)):e3 P C [e] J σ=D ([v],aM):=by show(aG P C e J σ).bind _=_;rw[h];rfl
theorem Kx{e f:E}{v u:V}(h:aG P C e J σ=D (v,aM))(ah:aG P C f J aM=D (u,bS)):e3 P C [e,f] J σ=D ([v,u],bS):=by show(aG P C e J σ).bind _=_;rw[h];show(e3 P C [f] J aM).bind _=_;rw[so ah];rfl
theorem tB{a:bG}(h:f0 a=ae):[a].all f0=ae:=by rw[HA,h];rfl
theorem listAt{i:H}{vs:I V}{p:aQ×aQ}{G:Prop}(R:bX X U σ h)(aE:σ[i]?=D (.list vs))(ao:U[i]?=D p)(k:∀aS n,p.2=p.1->h.get? p.1=D {cls:= .type "list",data:= .seq aS n}->bK U h vs aS.toList->G):G:=
 let q:=R.cells _ _ _ aE ao
 q.2.elim fun aS r=>r.1.elim fun n e=>k aS n q.1 e r.2
theorem Gn{i:H}{p:aQ×aQ}{us:I V}{v:V}{val:al}{aS jts:dD al}{k:H}{bC:bb}{cC:cu}(r:Reach [] U s cC bC)(R:bX X cC σ bC.heap)(ao:cC[i]?=D p)(aj:bC.heap.get? p.1=D {cls:= .type "list",data:= .seq aS k})(hd:p.2=p.1){f:dD al->dD al}(bH:f aS=jts)
  (aH:bK cC bC.heap us jts.toList) (w:∀aD,Step cC cC [] bC.heap aD->aU cC aD v val):dN X U s v (σ.set i (.list us)) val {bC with heap:=bC.heap.update p.1 (qm f)}:=
 let q:=Bu R ao aj hd bH aH;⟨cC,r.trans ⟨⟨_,bC.toks,rfl⟩,q.2⟩,q.1,w _ q.2⟩
theorem afN{o a:bG}{gs pos:c3}{e x:E}(aR:m3 o=ae)(ao:(gs.endLine==pos.line)=ae)(aI:f0 a=ae)(h0:bQ X P C n ai o e)(aA:bQ X P C n ai a x):
  bQ X P C n ai (.Call (.Attribute o "append" gs) [a] [] pos) (.append e x):= .intro fun J σ A U s en c i aM ag eo u bS ah vs aE gL=>wI (es:=[x]) RA PySem.F.slot_list_append PySem.F.type_list_append aR ao (tB aI) (by decide:1 < 30) h0 (.cons aA .nil) ag (so ah) c (Mh eo) fun cC bC p xs b3 ch my w=>bK.vl (P:=fun xs=>bi (bv X.prog X.w) A (call (.builtin "list.append") (.ref p.1::xs) []) (dN X U s .none (bS.set i (.list (vs++ [u])))) b4 bC) w fun i3 a9=>listAt ch.store aE my fun aS k hd aj aH=>by
   refine t3 alc ⟨_,aj,rfl⟩ ak8 ?_ (ak6 _ _)
   have hz:aS.size<=kP:=aH.size▸Bz gL
   show bi _ _ (updateSeq p.1 (·.push i3) >>=fun _=>ret .none) _ _ bC
   exact b9 (R0 aj rfl (dE ⟨.none,rfl,Gn (f:=fun xs=>xs.push i3) (jts:=aS.push i3) b3 ch.store my aj hd rfl (by rw[QN];exact aH.append (bK.one a9)) fun _ _=>rfl⟩))
open AutoSeq1 MeetsSeq MeetsSeq2 in
theorem ace(l:aQ)(dd:dD al)(n:H)(b:aQ)(xq:dD al)(gE:H)(m9:aJ aQ)(ai:dD (aJ al))(ju:¬(!dd.isEmpty && Rt (dd.size+xq.size))=ae)(aaF:dd.size<=kP)(aaG:dd.size+xq.size<=kP+1):
  Meets (HQ.«list.extend» ⟨[.ref l,.ref b],[]⟩) (fun _ R s=>s.heap.get? l=D {cls:= .type "list",dict:=aa,data:= .seq dd n,slots:= #[]}/\s.heap.get? b=D {cls:= .type "tuple",dict:=m9,data:= .seq xq gE,slots:=ai}/\R (.ok (.ret RF)) {s with heap:=s.heap.update l (qm fun x=>x++xq),toks:=s.toks}):= .of_wp fun prog w A R s h=>by
  obtain⟨ao,g,d,tk,os⟩:=s;obtain⟨aj,ax,h⟩:=h;have f1:=idx_int;have f2:=amV;have kp:=amS;have f4:=amU;have z2:=amT;
  have aaV:(dd++xq).size<=kP+1:=by rw[Array.size_append];exact aaG
  wp_walk using(R0 aj rfl (hz:=aaF) (_hz':=aaV)),alw aj,alw ax;exact⟨_,rfl,h⟩
theorem Xz{p:aQ×aQ}{t:aQ}{aS jts:dD al}{k:H}{Q:al->bb->Prop}(aj:s.heap.get? p.1=D {cls:= .type "list",data:= .seq aS k})(aP:ji s.heap t jts)(hz:aS.size+jts.size < a4)
  (q:Q .none {s with heap:=s.heap.update p.1 (qm fun xs=>xs++jts)}):bi (bv X.prog X.w) A (call (.builtin "list.extend") [.ref p.1,.ref t] []) Q b4 s:=by
 obtain⟨⟨cls,m9,data,ai⟩,jY,mx,cZ,on⟩:=aP
 simp only at mx on
 subst mx on
 have ag:aS.size+jts.size<=kP:=Bz hz
 refine call_meets akR ⟨_,aj,rfl⟩ PySem.F.entry_list_extend (PySem.F.args_list_extend_2 _ _) (ace p.1 aS k t jts cZ m9 ai ?_ (cp (cn _ _) ag) (Cs ag)) ⟨aj,jY,q⟩
 have:Rt (aS.size+jts.size)=aw:=by
  unfold Rt
  exact ek (by have:a4=1000000:=rfl;omega)
 rw[this,l2];exact v1
theorem afU{o a:bG}{gs pos:c3}{e x:E}(aR:m3 o=ae)(ao:(gs.endLine==pos.line)=ae)(aI:f0 a=ae)(h0:bQ X P C n ai o e)(aA:bQ X P C n ai a x):
  bQ X P C n ai (.Call (.Attribute o "extend" gs) [a] [] pos) (.extend e x):= .intro fun J σ A U s en c i aM ag eo us bS ah vs aE gL=>wI (es:=[x]) RA akR PySem.F.type_list_extend aR ao (tB aI) (by decide:1 < 30) h0 (.cons aA .nil) ag (so ah) c (Mh eo) fun cC bC p xs b3 ch my w=>bK.vl (P:=fun xs=>bi (bv X.prog X.w) A (call (.builtin "list.extend") (.ref p.1::xs) []) (dN X U s .none (bS.set i (.list (vs++us)))) b4 bC) w fun i3 a9=>aU.jD a9 fun t jts aP _ hw=>listAt ch.store aE my fun aS k hd aj aH=>Xz aj aP (by rw[aH.size,hw.size];exact gL) (Gn (f:=fun xs=>xs++jts) (jts:=aS++jts) b3 ch.store my aj hd rfl (by rw[Array.toList_append];exact aH.append hw) fun _ _=>rfl)
theorem Xo{aS:dD al}:(aS.eraseIdxIfInBounds (aS.size - 1)).toList=aS.toList.take (aS.size - 1):=by
 obtain⟨l⟩:=aS
 rw[List.eraseIdxIfInBounds_toArray]
 show l.eraseIdx (l.length - 1)=l.take (l.length - 1)
 rw[List.eraseIdx_eq_take_drop_succ]
 cases l with
 |nil=>rfl
 |cons a r=>rw[show(a::r).length - 1+1=(a::r).length from rfl,List.drop_length,fi]
theorem agc{o:bG}{gs pos:c3}{e:E}(aR:m3 o=ae)(ao:(gs.endLine==pos.line)=ae)(h0:bQ X P C n ai o e):
  bQ X P C n ai (.Call (.Attribute o "pop" gs) [] [] pos) (.pop e):= .intro fun J σ A U s en c i aM ag vs aE gL v aak=>wI (es:=[]) RA akS PySem.F.type_list_pop aR ao rfl (by decide:0 < 30) h0 .nil ag (vs:=[]) (bS:=aM) rfl c (Mi aE) fun cC bC p xs b3 ch my w=>listAt ch.store aE my fun aS k hd aj aH=>by
  rw[show xs=[]from w]
  obtain⟨x,aT,tN⟩:=aH.get (List.getLast?_eq_getElem?.symm.trans aak)
  have aX:aS[aS.size - 1]?=D x:=by rw[aH.size];exact n3.symm.trans aT
  exact call_meets akS ⟨_,aj,rfl⟩ PySem.F.entry_list_pop (PySem.F.args_list_pop_1 _) (am4 p.1 aS k x aX (aH.size▸BA gL))
   ⟨aj,Gn (f:=fun xs=>xs.eraseIdxIfInBounds (aS.size - 1)) b3 ch.store my aj hd rfl (by rw[Xo,List.dropLast_eq_take,aH.size];exact aH.take _) fun _ S=>tN.step S (by simp)⟩
end
end
section
open PySem.SeqAt
section
variable {X:c0}{U bj:cu}{h aD:bP}{ai:cR}{en:e6}{J:Loc}{σ aM bS:St}{P:c4}{C:Cl}{n:H}{A:ea}{s:bb}
theorem Kc{i:H}{aW:gp}{kvs:I (V×V)}{k d:V}{b5 mq:al}{p:aQ×aQ}(dw:A.units+16 < cLine)(aE:σ[i]?=D (.dict aW kvs))(am:aW.ok k=ae)(R:bX X U σ s.heap)(ao:U[i]?=D p)(xi:aU U s.heap k b5)(uM:aU U s.heap d mq){Q:al->bb->Prop}
  (q:∀val tk,aU U s.heap ((cx kvs k).getD d) val->Q val {s with toks:=tk}):
  bi (bv X.prog X.w) A (call (.builtin "dict.get") [.ref p.1,b5,mq] []) Q b4 s/\(mq= .none->bi (bv X.prog X.w) A (call (.builtin "dict.get") [.ref p.1,b5] []) Q b4 s):=by
 have cr:=R.cells _ _ _ aE ao
 have nm:=R.rq ao
 cases aW with
 |i=>
  obtain⟨j,rfl⟩:=AA am
  obtain⟨_,l,dO,cM⟩:=cr
  exact aU.gP xi fun t=>⟨wd qk dO.typeIs wa (HT _ _ _) (RQ _ _ sL nm mq) ⟨_,dO.mapOf,q _ _ (hX.getD (pb.found cM) uM)⟩,
   fun e=>wd qk dO.typeIs wa (Rw _ _) (alb _ _ sL nm) ⟨_,dO.mapOf,e▸q _ _ (hX.getD (pb.found cM) uM)⟩⟩
 |s=>
  obtain⟨j,rfl⟩:=BQ am
  obtain⟨_,l,dO,cM⟩:=cr
  exact aU.mO xi fun t=>⟨wd qk dO.typeIs wa (HT _ _ _) (RQ _ _ (yO X.prog X.w j t) nm mq) ⟨_,dO.mapOf,q _ _ (hX.getD (jk.found cM) uM)⟩,
   fun e=>wd qk dO.typeIs wa (Rw _ _) (alb _ _ (yO X.prog X.w j t) nm) ⟨_,dO.mapOf,e▸q _ _ (hX.getD (jk.found cM) uM)⟩⟩
 |t=>
  obtain⟨ag,ah⟩:=ei.mp am
  obtain⟨_,l,dO,cM⟩:=cr
  obtain⟨ad,rfl⟩:=x0 ag xi
  exact⟨wd qk dO.typeIs wa (HT _ _ _) (meetsH_dict_get_default _ _ _ nm mq) ⟨rL dw,k,l,xi.pr 5 ah,dO,q _ _ (hX.getD (gr.found cM) uM)⟩,
   fun e=>wd qk dO.typeIs wa (Rw _ _) (meetsH_dict_get _ _ _ nm) ⟨rL dw,k,l,xi.pr 5 ah,dO,e▸q _ _ (hX.getD (gr.found cM) uM)⟩⟩
theorem GU{a b:bG}(h:f0 a=ae)(ah:f0 b=ae):[a,b].all f0=ae:=by rw[HA,h];exact tB ah
theorem afV{o a:bG}{gs pos:c3}{e k:E}(aR:m3 o=ae)(ao:(gs.endLine==pos.line)=ae)(aI:f0 a=ae)(h0:bQ X P C n ai o e)(am:bQ X P C n ai a k):
  bQ X P C n ai (.Call (.Attribute o "get" gs) [a] [] pos) (.qW e k):= .intro fun J σ A U s en c i aM ag oj u bS ah aW kvs aE ET=>wI (es:=[k]) Rz qk RC aR ao (tB aI) (by decide:1 < 30) h0 (.cons am .nil) ag (so ah) c (Me oj) fun cC bC p xs b3 ch my w=>bK.vl (P:=fun xs=>bi (bv X.prog X.w) A (call (.builtin "dict.get") (.ref p.1::xs) []) (dN X U s ((cx kvs u).getD .none) bS) b4 bC) w fun x a9=>(Kc (lc ch.room) aE ET ch.store my a9 (show aU cC bC.heap .none .none from rfl) fun val tk z=>kn b3 ch.store z).2 rfl
theorem afW{o a b:bG}{gs pos:c3}{e k d:E}(aR:m3 o=ae)(ao:(gs.endLine==pos.line)=ae)(aI:f0 a=ae)(ax:f0 b=ae)(h0:bQ X P C n ai o e)(am:bQ X P C n ai a k)(hd:bQ X P C n ai b d):
  bQ X P C n ai (.Call (.Attribute o "get" gs) [a,b] [] pos) (.qX e k d):= .intro fun J σ A U s en c i aM ag oj u bS ah z fT aN aW kvs aE ET=>wI (es:=[k,d]) Rz qk RC aR ao (GU aI ax) (by decide:2 < 30) h0 (.cons am (.cons hd .nil)) ag (Kx ah aN) c (Me oj) fun cC bC p xs b3 ch my w=>bK.Qh (P:=fun xs=>bi (bv X.prog X.w) A (call (.builtin "dict.get") (.ref p.1::xs) []) (dN X U s ((cx kvs u).getD z) fT) b4 bC) w fun x y a9 bE=>(Kc (lc ch.room) aE ET ch.store my a9 bE fun val tk z=>kn b3 ch.store z).1
structure o8(X:c0):Prop where
 len:X.mg "len" =aa/\X.mb "len" =D (.builtin "len")
 tuple:X.mg "tuple" =aa/\X.mb "tuple" =D (.type "tuple")
 sorted:X.mg "sorted" =aa/\X.mb "sorted" =D (.builtin "sorted")
 all:X.mg "all" =aa/\X.mb "all" =D (.builtin "all")
 any:X.mg "any" =aa/\X.mb "any" =D (.builtin "any")
 range:X.mg "range" =aa/\X.mb "range" =D (.type "range")
theorem wH{x:aK}{f:al}{p pos:c3}{a:bG}{e:E}{v u:V}{aF:St}(am:∀h,True->∃k,(k=HX\/k=HY\/k=HW)/\yL (bv X.prog X.w) h (keeperOf f) k)(hm:X.mg x=aa/\X.mb x=D f)(aA:x∈ai.fD)(hd:(x==("__debug__" :aK))=aw)(aI:f0 a=ae)(h0:bQ X P C n ai a e)
  (ag:aG P C e J σ=D (v,aM)) (c:dX X n A U s ai en J σ)
  (k:∀bm a2 val,A.handled=aa->bX X bm aM a2.heap->aU bm a2.heap v val->bi (bv X.prog X.w) A (call f [val] []) (dN X bm a2 u aF) b4 a2):
  bi (bv X.prog X.w) A (gn (.Call (.Name x p) [a] [] pos) en) (dN X U s u aF) b4 s:=by
 rw[CA]
 exact b9 (Fo c aA hm.1 hm.2 hd (qM (Ph:=fun _=>True) (first:=[]) (tB aI) am (.cons h0 .nil) (so ag) c fun bm a2 xs r bN w=>⟨trivial,
  bK.vl (P:=fun xs=>bi (bv X.prog X.w) A (call f xs []) (dN X U s u aF) b4 a2) w fun i3 a9=>e7 (k bm a2 i3 bN.room.2.2 bN.store a9) (fun _ _ q=> .after r q) fun _ _ x=>x⟩))
theorem af1(B:o8 X){p pos:c3}{a:bG}{e:E}(aA:(hS "len")∈ai.fD)(aI:f0 a=ae)(h0:bQ X P C n ai a e):bQ X P C n ai (.Call (.Name "len" p) [a] [] pos) (.len e):= .intro fun J σ A U s en c y aM ag vs ah aj=>wH sW B.len aA (by decide) aI h0 ag c fun bm a2 val _ R w=>agr R ah w (fun a aS aP aH _=>len_tuple aP (va (aH.size▸aj)) (kn (Reach.refl ..) R ⟨_,bs (fun k:H=>RE k _) aH.size⟩)) fun a aS aP aH=>Calls.call_len_list aP (va (aH.size▸aj)) (kn (Reach.refl ..) R ⟨_,bs (fun k:H=>RE k _) aH.size⟩)
theorem fresh_at{a:aQ}(am:∀a o,h.get? a=D o->aD.get? a=D o)(l:aD.objs.size<=a):h.get? a=aa:=by
 cases e:h.get? a with
 |none=>rfl
 |some o=>exact absurd (o4 (am _ _ e)) (mT.mpr l)
theorem ait{vs:I V}{l:aQ}{aS:dD al}(hz:vs.length<=a4)(R:bX X U σ s.heap)(aj:s.heap.IsList l aS)(aH:bK U s.heap vs aS.toList):bi (bv X.prog X.w) A (call (.type "tuple") [.ref l] []) (dN X U s (.ab vs) σ) b4 s:=by
 refine call_tuple_list aj (fun aD am=> ?_) (cp (gb aH.size) (BA hz))
 have ic:∀a o,s.heap.get? a=D o->(aD.push {cls:= .type "tuple",data:= .seq aS}).get? a=D o:=fun a o e=>hJ _ (am a o e)
 exact⟨U,⟨⟨_,s.toks,rfl⟩,Step.of_keeps _ _ ic⟩,R.keeps ic,_,aS,rfl,⟨_,iL _ rfl,rfl,0,rfl⟩,R.fq (fresh_at am (dm _)),aH.step (Step.of_keeps U [] ic) (by simp)⟩
@[elab_as_elim] theorem Fv{y:V}{vs:I V}{x:al}{P:al->Prop}(R:bX X U σ h)(e:lJ σ y=D vs)(w:aU U h y x)(k:∀a aS,h.IsList a aS->bK U h vs aS.toList->P (.ref a)):P x:=by
 cases y with
 |lst us=>exact aU.k5 (w.to (bs V.lst (bD e))) fun a aS ag _ aN=>k a aS ag aN
 |obj n=>exact br e fun c ag ah=>aU.listE R (ag.trans (bs D (Cell.list_eq ah))) w k
 |none|bool _|int _|str _|ab _=>exact cD e
theorem agi(B:o8 X){p pos:c3}{a:bG}{e:E}(aA:(hS "tuple")∈ai.fD)(aI:f0 a=ae)(h0:bQ X P C n ai a e):bQ X P C n ai (.Call (.Name "tuple" p) [a] [] pos) (.tuple e):= .intro fun J σ A U s en c y aM ag vs ah aj=>wH Nb B.tuple aA (by decide) aI h0 ag c fun bm a2 val _ R w=>Fv R ah w fun a aS aP aH=>ait aj R aP aH
theorem VW{vs:I V}{av:I au}{xs:I al}(e:hc vs=D av)(r:bK U h vs xs):xs=av.map .bool:=by
 induction vs generalizing av xs with
 |nil=>rw[show xs=[]from r,<-bD (show D []=D av from e)];rfl
 |cons v vs bh=>
  obtain⟨x,xs,rfl,a,b⟩:=r
  cases v with
  |bool c=>exact br e fun l aT aX=>by rw[bh aT b,show x=_ from a,<-bD aX];rfl
  |none|int _|str _|ab _|lst _|obj _=>exact cD e
theorem ae1(av:I au):(gl av.length).all (fun i=>av.getD i aw)=av.all id:=by
 rw[yz]
 simp only[ke,qe,id]
 constructor
 ·intro q b ax
  obtain⟨i,hi⟩:=yE.mp ax
  have:=q i (fj.mp hi).1
  simpa[Cm,hi]using this
 ·intro q i hi
  have:=q _ (Cn hi)
  simpa[Cm,hG hi]using this
theorem ae2(av:I au):(gl av.length).any (fun i=>av.getD i aw)=av.any id:=by
 rw[yz]
 simp only[mR,qe,id]
 constructor
 ·rintro ⟨i,hi,q⟩
  exact⟨av[i],Cn hi,by simpa[Cm,hG hi]using q⟩
 ·rintro ⟨b,ax,q⟩
  obtain⟨i,hi⟩:=yE.mp ax
  exact⟨i,(fj.mp hi).1,by simpa[Cm,hi]using q⟩
theorem IS{vs:I V}{av:I au}{l:aQ}{aS:dD al}(bu:A.handled=aa)(ax:hc vs=D av)(R:bX X U σ s.heap)(aj:s.heap.IsList l aS)(aH:bK U s.heap vs aS.toList):
  bi (bv X.prog X.w) A (call (.builtin "all") [.ref l] []) (dN X U s (.bool (av.all id)) σ) b4 s/\bi (bv X.prog X.w) A (call (.builtin "any") [.ref l] []) (dN X U s (.bool (av.any id)) σ) b4 s:=by
 have e:=VW ax aH
 have cc:l≠s.heap.objs.size:=hI (let⟨o,aR,_⟩:=aj;o4 aR)
 have kH:aS.size=av.length:=by have:=bs HC e;simpa using this
 have cN:TruthOf X.prog X.w A.in1 (fun i v=>aS[i]?=D v) (fun i=>av.getD i aw):=fun i v s Q E sw sx=>by
  have:aS.toList[i]?=D v:=by simpa using sw
  rw[e,rR]at this
  cases q:av[i]? with
  |none=>rw[q]at this;cases this
  |some b=>
   rw[q]at this;cases this
   simp only[Cm,q,Ro]at sx
   exact t4 sx
 have st:(s.heap.push {cls:= .type "list_iterator",data:= .fields #[.ref l,.int 0 0]}).IsListIter s.heap.objs.size l 0/\(s.heap.push {cls:= .type "list_iterator",data:= .fields #[.ref l,.int 0 0]}).IsList l aS:=⟨⟨_,iL _ rfl,rfl,rfl⟩,let⟨o,aR,r⟩:=aj;⟨o,hJ _ aR,r⟩⟩
 have W:=ak5 (prog:=X.prog) (w:=X.w) (A:=A.in1) bu s.heap.objs.size l cc aS
 have fin:∀(b:au) (aD:bP) (tk:H),(∀b o,b∉ [s.heap.objs.size]->(s.heap.push {cls:= .type "list_iterator",data:= .fields #[.ref l,.int 0 0]}).get? b=D o->aD.get? b=D o)->
   dN X U s (.bool b) σ (.bool b) { ({s with heap:=s.heap.push {cls:= .type "list_iterator",data:= .fields #[.ref l,.int 0 0]}}:bb)with heap:=aD,toks:=tk}:=fun b aD tk am=>by
  have ic:∀a o,s.heap.get? a=D o->aD.get? a=D o:=fun a o q=>am a o (by simp;exact hI (o4 q)) (hJ _ q)
  exact⟨U,⟨⟨_,_,rfl⟩,Step.of_keeps _ _ ic⟩,R.keeps ic,rfl⟩
 constructor
 ·refine call_all_walk (H6 aj ⟨_,_,_,_,_,_,_,rfl,W,st,cN,fun aD tk am=> ?_⟩)
  rw[kH,ae1]
  exact fin _ aD tk am
 ·refine call_any_walk (H6 aj ⟨_,_,_,_,_,_,_,rfl,W,st,cN,fun aD tk am=> ?_⟩)
  rw[kH,ae2]
  exact fin _ aD tk am
theorem afK(B:o8 X){p pos:c3}{a:bG}{e:E}(aA:(hS "all")∈ai.fD)(aI:f0 a=ae)(h0:bQ X P C n ai a e):bQ X P C n ai (.Call (.Name "all" p) [a] [] pos) (.all e):= .intro fun J σ A U s en c y aM ag vs ah av aN=>wH sW B.all aA (by decide) aI h0 ag c fun bm a2 val bu R w=>Fv R ah w fun a aS aP aH=>(IS bu aN R aP aH).1
theorem afM(B:o8 X){p pos:c3}{a:bG}{e:E}(aA:(hS "any")∈ai.fD)(aI:f0 a=ae)(h0:bQ X P C n ai a e):bQ X P C n ai (.Call (.Name "any" p) [a] [] pos) (.any e):= .intro fun J σ A U s en c y aM ag vs ah av aN=>wH sW B.any aA (by decide) aI h0 ag c fun bm a2 val bu R w=>Fv R ah w fun a aS aP aH=>(IS bu aN R aP aH).2
end
end
section
open PySem.SeqAt
section
variable {X:c0}{U bj:cu}{h aD:bP}{ai:cR}{en:e6}{J:Loc}{σ aM bS:St}{P:c4}{C:Cl}{n:H}{A:ea}{s:bb}
theorem E9(x:O):∀l,(k2 x l).Perm (x::l)
 |[]=> .refl _
 |y::r=>by
  unfold k2
  split
  ·exact .refl _
  ·exact(amN y (E9 x r)).trans (.swap ..)
theorem Pk:∀l,(f7 l).Perm l
 |[]=> .refl _
 |x::r=>(E9 x _).trans (.cons x (Pk r))
theorem L8(x:O):∀l,l.Pairwise (· <= ·)->(k2 x l).Pairwise (· <= ·)
 |[],_=>by simp[k2]
 |y::r,h=>by
  unfold k2
  rw[l5]at h
  split
  ·rename_i q
   refine l5.mpr ⟨fun z hz=> ?_,l5.mpr h⟩
   rcases dj.mp hz with rfl|hz
   ·exact q
   ·exact v2 q (h.1 z hz)
  ·rename_i q
   refine l5.mpr ⟨fun z hz=> ?_,L8 x r h.2⟩
   rcases dj.mp ((E9 x r).mem_iff.mp hz)with rfl|hz
   ·omega
   ·exact h.1 z hz
theorem Pl:∀l,(f7 l).Pairwise (· <= ·)
 |[]=> .nil
 |x::r=>L8 x _ (Pl r)
theorem agT{l m:I O}(p:m.Perm l)(s:m.Pairwise (· <= ·)):m=f7 l:=amO (le:=(· <= ·)) (fun a b _ _ ag ah=>Int.le_antisymm ag ah) s (Pl l) (p.trans (Pk l).symm)
theorem Mq:∀ {vs:I al} {ns:I O},vs.length=ns.length->(∀(j:H) (v:al),vs[j]?=D v->∃(n:O) (t:kO),ns[j]?=D n/\v=RE n t)->IntsAre vs ns
 |[],[],_,_=> .nil
 |v::vs,n::ns,l,q=>by
  obtain⟨m,t,e,rfl⟩:=q 0 v rfl
  simp at e;subst e
  exact .cons _ _ (Mq (by simpa using l) fun j v e=>q (j+1) v (by simpa using e))
 |[],_::_,l,_=>by simp at l
 |_::_,[],l,_=>by simp at l
theorem abc{vs:I al}{ns:I O}(r:IntsAre vs ns):bK U h (ns.map V.int) vs:=by
 induction r with
 |nil=>exact rfl
 |cons n t r bh=>exact⟨_,_,rfl,⟨t,rfl⟩,bh⟩
theorem pb.ints{r:I (V×V)}{l:I (O×al)}(c:pb U h r l):ra (r.map (·.1))=D (l.map (·.1)):=by
 induction c with
 |nil=>rfl
 |@cons j _ _ _ _ _ _ bh=>show(ra _).bind (fun l=>D (j::l))=_;rw[bh];rfl
theorem agV{i:H}{kvs:I (V×V)}{l:I O}{p:aQ×aQ}(bu:A.handled=aa)(aE:σ[i]?=D (.dict .i kvs))(aj:ra (kvs.map (·.1))=D l)(pD:l.length < 64)(R:bX X U σ s.heap)(ao:U[i]?=D p):
  bi (bv X.prog X.w) A (call (.builtin "sorted") [.ref p.1] []) (dN X U s (.lst ((f7 l).map V.int)) σ) b4 s:=by
 obtain⟨_,b5,hd,bg⟩:=R.cells _ _ _ aE ao
 have ku:=bg.ints
 rw[aj]at ku;cases ku
 have nm:=R.rq ao
 obtain⟨ep,pE⟩:=hd.dictAt
 refine Calls.call_function_entry kind_sorted plain_sorted entry_sorted (args_sorted1 _) ?_
 unfold HQ.«sorted»
 refine b9 (m:=checkCount "sorted" 1 1 _) (dE ?_)
 have aZ:b5.length < 64:=by simpa using pD
 refine b9 (kdu_collect (A:=A.in1) (kdl_dict (knd:=intKind X.prog X.w) (kvs:=b5) (ep:=ep) nm) bu pE (kdl_size (by omega)) fun aD tk cb am xa=> ?_)
 have a5:IntsAre cb.toList (b5.map (·.1)):=Mq (by simp[xa.1]) fun j v e=>by
  obtain⟨k,x,aT,aX⟩:=xa.2 j v (by rw[<-n3];exact e)
  obtain⟨t,rfl⟩:=akY (k:=k) aX
  exact⟨k,t,by simp[aT],rfl⟩
 have hz:cb.toList.length=b5.length:=by rw[Cg];exact xa.1
 refine b9 (wpAny_newList ?_ (by rw[hz];exact kdl_size (by omega)))
 have aR:(aD.push {cls:= .type "list",data:= .seq cb.toList.toArray}).get? aD.objs.size=D (seqObj "list" cb.toList.toArray 0):=iL _ rfl
 refine b9 (yQ (t3 slot_list_sort ⟨_,aR,rfl⟩ entry_list_sort (list_sort_tree aR a5 (by omega) fun out ame ZH gN aaE=>⟨.none,rfl, ?_⟩) (args_list_sort _)))
 refine dE ⟨_,rfl, ?_⟩
 obtain⟨e,he⟩:=sortedHeap_at (out:=out) aR
 have ic:∀a o,s.heap.get? a=D o->(sortedHeap (aD.push {cls:= .type "list",data:= .seq cb.toList.toArray}) aD.objs.size cb.toList out).get? a=D o:=fun a o q=>by
  have a6:=am a o q
  rw[sortedHeap_old (hI (o4 a6)) (by rw[size_push'];exact nY (o4 a6))]
  exact hJ _ a6
 refine⟨U,⟨⟨_,tk,rfl⟩,Step.of_keeps _ _ ic⟩,R.keeps ic,aD.objs.size,out,rfl,⟨_,he,rfl,e,rfl⟩, ?_, ?_⟩
 ·exact R.fq (fresh_at am (dm _))
 ·rw[<-agT gN aaE]
  exact abc ZH
theorem Xu{y v:V}{G:Prop}(h:sq σ y=D v)(k:∀i kvs l,y= .obj i->σ[i]?=D (.dict .i kvs)->ra (kvs.map (·.1))=D l->l.length < 64->v= .lst ((f7 l).map .int)->G):G:=by
 cases y with
 |obj i=>
  unfold sq at h
  dsimp only at h
  cases q:σ[i]? with
  |none=>rw[q]at h;exact cD h
  |some c=>
   rw[q]at h
   cases c with
   |dict aW kvs=>
    cases aW with
    |i=>exact br h fun l aT h=>ey h fun aj e=>k i kvs l rfl q aT aj (bD e).symm
    |s|t=>exact cD h
   |list _|inst _ _=>exact cD h
 |none|bool _|int _|str _|ab _|lst _=>exact cD h
theorem age(B:o8 X){p pos:c3}{a:bG}{e:E}(aA:(hS "sorted")∈ai.fD)(aI:f0 a=ae)(h0:bQ X P C n ai a e):bQ X P C n ai (.Call (.Name "sorted" p) [a] [] pos) (.sorted e):= .intro fun J σ A U s en c y aM ag v ah=>Xu ah fun i kvs l wX aE aT pD py=>wH sW B.sorted aA (by decide) aI h0 ag c fun bm a2 val bu R w=>aU.objE (w.to wX) fun p ao=>py▸agV bu aE aT pD R ao
theorem VF{tm tn:CmpOp}{cS b3:bG}{l:bG}{a b eU:E}{o p:n6}{pos:c3}(aR:tj o=tm)(dx:tj p=tn)(hm:lastMarks [tm,tn] [cS,b3]=aw)(aI:bQ X P C n ai l a)(ax:bQ X P C n ai cS b)(aE:bQ X P C n ai b3 eU):
  bQ X P C n ai (.Compare l [tm,tn] [cS,b3] pos) (.jo o p a b eU):= .intro fun J σ A U s en c x aM ag y bS ah=>by
 rw[<-aR,<-dx]at hm ⊢
 exact⟨fun aN=>akD (aI.run ag c fun bm a2 jF cS bN fu=>chain_link (ax.run ah bN fun cC bC tJ b3 ch hE=>qN (lc c.room) aN ch.store (fu.step b3.step (by simp)) hE fun tk=>t4 (kn (cS.trans b3) ch.store rfl))) hm,
  fun aN u fT b1 z ef=>akD (aI.run ag c fun bm a2 jF cS bN fu=>chain_link (ax.run ah bN fun cC bC tJ b3 ch hE=>qN (lc c.room) aN ch.store (fu.step b3.step (by simp)) hE fun tk=>t4
   (chain_last (aE.run b1 (ch.next (Reach.toks (tk:=tk)) ch.store) fun fR dH Hk gj qP Ho=>qN (lc c.room) ef qP.store (aU.step (h:=bC.heap) gj.step (by simp) hE) Ho fun tk=>kn (((cS.trans b3).trans Reach.toks).trans gj) qP.store rfl)))) hm⟩
end
end
section
open PySem.SeqAt
section
variable {X:c0}{U bj:cu}{h aD:bP}{ai:cR}{en:e6}{J:Loc}{σ aM bS:St}{P:c4}{C:Cl}{n:H}{A:ea}{s:bb}
structure lx(X:c0)(A:ea)(bB:aQ)(vs:I V)(live:St->au)(Inv:H->cu->bP->Prop):Prop where
 move:∀i U bj ow h aD,Inv i U h->Step U bj ow h aD->(∀a∈ow,ha h a)->bB∉ow->Inv i bj aD
 own:∀i U h,Inv i U h->¬foot U bB/\ha h bB/\X.h₀.get? bB=aa/\∃o,h.get? bB=D o
 item:∀i U σ (s:bb) v (Q:aJ al->bb->Prop) E,vs[i]?=D v->live σ=ae->bX X U σ s.heap->Inv i U s.heap->
  (∀x aD tk,aU U aD v x->Inv (i+1) U aD->(∀b o,b≠bB->s.heap.get? b=D o->aD.get? b=D o)->Q (D x) {s with heap:=aD,toks:=tk})->bi (bv X.prog X.w) A (pyNext (.ref bB)) Q E s
 done:∀U σ (s:bb) (Q:aJ al->bb->Prop) E,live σ=ae->bX X U σ s.heap->Inv vs.length U s.heap->
  (∀aD tk,(∀b o,b≠bB->s.heap.get? b=D o->aD.get? b=D o)->Q aa {s with heap:=aD,toks:=tk})->bi (bv X.prog X.w) A (pyNext (.ref bB)) Q E s
 self:∀i U (s:bb) (Q:al->bb->Prop) E,Inv i U s.heap->Q (.ref bB) s->bi (bv X.prog X.w) A (pyIter (.ref bB)) Q E s
structure Ti(X:c0)(bB:aQ)(ss:I aQ)(pe:H->bP->Prop)(mf:cu->bP->Prop)(i:H)(U:cu)(h:bP):Prop where
 st:pe i h
 rel:mf U h
 nC:¬foot U bB
 top:X.h₀.get? bB=aa
 GK:∀b∈ss,b≠bB->¬foot U b/\∃o aS n,h.get? b=D o/\o.data= .seq aS n
theorem s0{bB:aQ}(am:∀b o,b≠bB->h.get? b=D o->aD.get? b=D o):Move U U [bB] h aD:=⟨⟨[],by simp,by simp⟩,fun a o e _ q=>am a o (fun z=>q (z▸ .head _)) e⟩
theorem oG{bB:aQ}{p:aQ->Prop}(h:p bB):∀a∈ [bB],p a:=fun a aI=>dt.mp aI▸h
theorem lx.NS{bB:aQ}{ss:I aQ}{k:H}{Pi:H->al->Prop}{pe:H->bP->Prop}{vs:I V}{live:KK.St->au}(W:Walks X.prog X.w A bB ss [bB] k Pi pe)(am:vs.length=k)
  (a5:∀i h,pe i h->ha h bB/\∃o,h.get? bB=D o) (mf:cu->bP->Prop)
  (EV:∀i x U h v,mf U h->Pi i x->vs[i]?=D v->aU U h v x)
  (Ar:∀U bj ow h aD,mf U h->Move U bj ow h aD->(∀a∈ow,ha h a)->mf bj aD):
  lx X A bB vs live (Ti X bB ss pe mf)where
 move:=fun i U bj ow h aD w S aR aZ=>by
  obtain⟨o,aj⟩:=(a5 _ _ w.st).2
  refine⟨W.frame _ _ _ w.st fun b ax dp cH=> ?_,Ar _ _ _ _ _ w.rel S.d8 aR,S.fq aj w.nC,w.top,fun b ax cc=> ?_⟩
  ·by_cases q:b=bB
   ·exact S.keep _ _ cH (q▸w.nC) (q▸aZ)
   ·obtain⟨f,jz,aS,m,g1,g2⟩:=w.GK b ax q
    exact S.keep _ _ cH f fun z=>aR b z jz aS m g1 g2
  ·obtain⟨f,jz,aS,m,g1,g2⟩:=w.GK b ax cc
   exact⟨S.fq g1 f,jz,aS,m,S.keep _ _ g1 f fun z=>aR b z jz aS m g1 g2,g2⟩
 own:=fun i U h w=>⟨w.nC,(a5 _ _ w.st).1,w.top,(a5 _ _ w.st).2⟩
 item:=fun i U σ s v Q E aH _ R w q=>W.item i s Q E (am▸(fj.mp aH).1) w.st fun x aD tk p st kr=>
  have EK:∀b o,b≠bB->s.heap.get? b=D o->aD.get? b=D o:=fun b o ax e=>kr b o (fun z=>ax (dt.mp z)) e
  have R':=Ar _ _ _ _ _ w.rel (s0 EK) (oG (a5 _ _ w.st).1)
  q x aD tk (EV i x U aD v R' p aH) ⟨st,R',w.nC,w.top,fun b ax cc=>(w.GK b ax cc).imp id fun⟨o,aS,n,g1,g2⟩=>⟨o,aS,n,EK _ _ cc g1,g2⟩⟩ EK
 done:=fun U σ s Q E _ R w q=>W.done s Q E (am▸w.st) fun aD tk kr=>q aD tk fun b o ax e=>kr b o (fun z=>ax (dt.mp z)) e
 self:=fun i U s Q E w q=>W.self i s Q E w.st q
theorem vg{a:aQ}{o:db}{fs:dD al}(aR:h.get? a=D o)(hd:o.data= .fields fs):ha h a/\∃o,h.get? a=D o:=by
 refine⟨fun dp aS n e q=> ?_,o,aR⟩
 rw[aR]at e;cases e
 rw[hd]at q;cases q
theorem MY{j:H}{vs:I V}{p:aQ×aQ}(aE:aM[j]?=D (.list vs))(aj:eQ aM (.obj j) σ=ae)(R:bX X U σ h)(ao:U[j]?=D p):∃aS,h.IsList p.1 aS/\bK U h vs aS.toList:=by
 unfold eQ at aj
 dsimp only at aj
 rw[aE]at aj
 cases q:σ[j]? with
 |none=>rw[q]at aj;cases aj
 |some c=>
  rw[q]at aj
  cases c with
  |list us=>exact listAt R (gy aj▸q) ao fun aS n _ e r=>⟨aS,akV ⟨n,e⟩,r⟩
  |dict _ _|inst _ _=>cases aj
structure Sy(X:c0)(bB:aQ)(j:H)(p:aQ×aQ)(i:H)(U:cu)(h:bP):Prop where
 it:h.IsListIter bB p.1 i
 at_:U[j]?=D p
 nC:¬foot U bB
 top:X.h₀.get? bB=aa
theorem AG{bB l:aQ}{i:H}(it:h.IsListIter bB l i):ha h bB/\∃o,h.get? bB=D o:=let⟨_,aR,_,hd⟩:=it;vg aR hd
theorem agY{bB:aQ}{j:H}{vs:I V}{p:aQ×aQ}(bu:A.handled=aa)(aE:aM[j]?=D (.list vs)):lx X A bB vs (eQ aM (.obj j)) (Sy X bB j p)where
 move:=fun i U bj ow h aD w S aY aZ=>⟨let⟨o,aR,r⟩:=w.it;⟨o,S.keep _ _ aR w.nC aZ,r⟩,S.get w.at_,S.fq (AG w.it).2.choose_spec w.nC,w.top⟩
 own:=fun i U h w=>⟨w.nC,(AG w.it).1,w.top,(AG w.it).2⟩
 item:=fun i U σ s v Q E aH aj R w q=>by
  obtain⟨aS,l,r⟩:=MY aE aj R w.at_
  obtain⟨x,aA,z⟩:=r.get aH
  refine wpAny_pyNext_list_item w.it l (x:=x) (n3.symm.trans aA) fun aD aac aY=> ?_
  have kr:∀b o,b≠bB->s.heap.get? b=D o->aD.get? b=D o:=fun b o ax e=>(aY.2 b ax).trans e
  exact q x aD s.toks (z.d8 (s0 kr) (oG (AG w.it).1)) ⟨aac,w.at_,w.nC,w.top⟩ kr
 done:=fun U σ s Q E aj R w q=>(MY aE aj R w.at_).elim fun aS r=>wpAny_pyNext_list_end bu w.it r.1 (Array.getElem?_eq_none (gb r.2.size)) fun aD aY=>q aD s.toks fun b o ax e=>aY b o ax e
 self:=fun i U s Q E w q=>wpAny_pyIter_listiter w.it q
noncomputable def i6(X:c0)(A:ea)(U:cu)(s:bb)(σ:St)(vs:I V)(live:St->au)(mB:al)(bc:bb):Prop:=∃bB Inv bj,mB= .ref bB/\lx X A bB vs live Inv/\Inv 0 bj bc.heap/\Reach [] U s bj bc/\bX X bj σ bc.heap/\s.heap.get? bB=aa
theorem sv(h:bP):h.get? h.objs.size=aa:=iZ (dm _)
theorem P9(R:bX X U σ h):X.h₀.get? h.objs.size=aa:=R.yo (sv h)
theorem i6.new{o:db}{ss:I aQ}{k:H}{Pi:H->al->Prop}{pe:H->bP->Prop}{vs:I V}{live:KK.St->au}{mf:cu->bP->Prop}(R:bX X U σ s.heap)(W:Walks X.prog X.w A s.heap.objs.size ss [s.heap.objs.size] k Pi pe)(am:vs.length=k)
  (a5:∀i h,pe i h->ha h s.heap.objs.size/\∃o,h.get? s.heap.objs.size=D o) (EV:∀i x U h v,mf U h->Pi i x->vs[i]?=D v->aU U h v x)
  (Ar:∀U bj ow h aD,mf U h->Move U bj ow h aD->(∀a∈ow,ha h a)->mf bj aD) (st:pe 0 (s.heap.push o)) (rel:mf U (s.heap.push o))
  (aY:∀b∈ss,b≠s.heap.objs.size->¬foot U b/\∃dp aS n,(s.heap.push o).get? b=D dp/\dp.data= .seq aS n):i6 X A U s σ vs live (.ref s.heap.objs.size) {s with heap:=s.heap.push o}:=⟨_,_,U,rfl,lx.NS W am a5 mf EV Ar,⟨st,rel,R.fq (sv _),P9 R,aY⟩,Reach.push,R.keeps fun a o e=>hJ _ e,sv _⟩
theorem Qq{vs:I V}{aS:dD al}:∀(i:H) (x:al) (U:cu) (h:bP) (v:V),bK U h vs aS.toList->aS[i]?=D x->vs[i]?=D v->aU U h v x:=fun i x U h v r p aH=>by
 obtain⟨i3,aT,a9⟩:=r.get aH
 exact bD (p.symm.trans (n3.symm.trans aT))▸a9
theorem O7{bB t:aQ}{dp:db}{aS:dD al}{n:H}(bH:¬foot U t)(aR:h.get? t=D dp)(hd:dp.data= .seq aS n):∀b∈ [bB,t],b≠bB->¬foot U b/\∃o aS n,h.get? b=D o/\o.data= .seq aS n:=fun b ax cc=>by
 rcases dj.mp ax with q|q
 ·exact absurd q cc
 ·rw[dt.mp q];exact⟨bH,dp,aS,n,aR,hd⟩
theorem abr{t:aQ}{aS:dD al}{vs:I V}{live:KK.St->au}(bu:A.handled=aa)(R:bX X U σ s.heap)(aP:ji s.heap t aS)(bH:¬foot U t)(aH:bK U s.heap vs aS.toList):bi (bv X.prog X.w) A (pyIter (.ref t)) (i6 X A U s σ vs live) b4 s:=by
 obtain⟨o,aR,aE,m,hd⟩:=id aP
 have e:=hJ {cls:= .type "tuple_iterator",data:= .fields #[.ref t,.int 0 0]} aR
 exact wpAny_pyIter_tuple aP (i6.new R (Walks.tuple bu _ t (hI (o4 aR)) aS) aH.size.symm (fun i h st=>st.1.elim fun o z=>vg z.1 z.2.2) Qq (fun _ _ _ _ _ r S aR=>r.d8 S aR)
  ⟨⟨_,iL _ rfl,rfl,rfl⟩,⟨o,e,aE,m,hd⟩⟩ (aH.push _) (O7 bH e hd))
theorem abo{t:aQ}{aS:dD al}{vs:I V}{live:KK.St->au}(bu:A.handled=aa)(R:bX X U σ s.heap)(aP:s.heap.IsList t aS)(bH:¬foot U t)(aH:bK U s.heap vs aS.toList):bi (bv X.prog X.w) A (pyIter (.ref t)) (i6 X A U s σ vs live) b4 s:=by
 obtain⟨o,aR,aE,m,hd⟩:=id aP
 have e:=hJ {cls:= .type "list_iterator",data:= .fields #[.ref t,.int 0 0]} aR
 exact H6 aP (i6.new R (ak5 bu _ t (hI (o4 aR)) aS) aH.size.symm (fun i h st=>st.1.elim fun o z=>vg z.1 z.2.2) Qq (fun _ _ _ _ _ r S aR=>r.d8 S aR)
  ⟨⟨_,iL _ rfl,rfl,rfl⟩,⟨o,e,aE,m,hd⟩⟩ (aH.push _) (O7 bH e hd))
theorem Pc{z:aK}:∀(i:H) (x:al) (U:cu) (h:bP) (v:V),True->SignAt z i x->(z.cps.toList.map fun c=>V.str ⟨#[c]⟩)[i]?=D v->aU U h v x:=by
 rintro i x U h v _ ⟨c,u,aT,rfl⟩ aX
 rw[rR,n3,aT]at aX
 exact bD aX▸⟨u,rfl⟩
theorem abq{z:aK}{t:kO}{live:KK.St->au}(bu:A.handled=aa)(R:bX X U σ s.heap):bi (bv X.prog X.w) A (pyIter (.str z t)) (i6 X A U s σ (z.cps.toList.map fun c=>V.str ⟨#[c]⟩) live) b4 s:=by
 have AZ:(z.cps.toList.map fun c=>V.str ⟨#[c]⟩).length=z.cps.size:=by rw[d5,Cg]
 cases aI:z.cps.all (· < 128)
 ·exact wpAny_pyIter_wide aI (i6.new R (Walks.strWide bu _ z t) AZ (fun i h st=>st.elim fun o z=>vg z.1 z.2.2) Pc (fun _ _ _ _ _ _ _ _=>trivial) ⟨_,iL _ rfl,rfl,rfl⟩ trivial fun b ax cc=>absurd (dt.mp ax) cc)
 ·exact wpAny_pyIter_ascii aI (i6.new R (Walks.strAscii bu _ z t) AZ (fun i h st=>st.elim fun o z=>vg z.1 z.2.2) Pc (fun _ _ _ _ _ _ _ _=>trivial) ⟨_,iL _ rfl,rfl,rfl⟩ trivial fun b ax cc=>absurd (dt.mp ax) cc)
theorem abp{y:V}{vs:I V}{x:al}(bu:A.handled=aa)(R:bX X U σ s.heap)(e:dd σ y=D vs)(w:aU U s.heap y x):
  bi (bv X.prog X.w) A (pyIter x) (i6 X A U s σ vs (eQ σ y)) b4 s:=by
 cases y with
 |ab us=>exact bD e▸aU.jD w fun t aS aP bH aH=>abr bu R aP bH aH
 |lst us=>exact bD e▸aU.k5 w fun t aS aP bH aH=>abo bu R aP bH aH
 |str z=>exact bD e▸aU.mO w fun t=>abq bu R
 |obj j=>exact br e fun c ag ah=>aU.objE w fun p ao=>listAt R (ag.trans (bs D (Cell.list_eq ah))) ao fun aS n _ l r=>H6 (akV ⟨n,l⟩) ⟨_,_,U,rfl,agY (p:=p) bu (ag.trans (bs D (Cell.list_eq ah))),⟨⟨_,iL _ rfl,rfl,rfl⟩,ao,R.fq (sv _),P9 R⟩,Reach.push,R.keeps (fun a o e=>hJ _ e),sv _⟩
 |none|bool _|int _=>exact cD e
end
end
section
open PySem.SeqAt
section
variable {X:c0}{U bj:cu}{h aD:bP}{ai:cR}{en:e6}{J:Loc}{σ aM bS:St}{P:c4}{C:Cl}{n:H}{A:ea}{s:bb}
noncomputable def cR.ok(ai:cR):au:=decide ((ai.slots.map (·.2)).Nodup)
theorem NG:∀ {l:I (aK×H)} {x y:aK} {i:H},(l.map (·.2)).Nodup->(x,i)∈l->(y,i)∈l->x=y
 |[],_,_,_,_,a,_=>by simp at a
 |p::l,x,y,i,cj,a,b=>by
  rw[eI,hH]at cj
  rcases dj.mp a with aI|aI <;>rcases dj.mp b with ax|ax
  ·rw[<-ax]at aI;cases aI;rfl
  ·exact absurd (dk.mpr ⟨(y,i),ax,rfl⟩) (by rw[<-aI]at cj;exact cj.1)
  ·exact absurd (dk.mpr ⟨(x,i),aI,rfl⟩) (by rw[<-ax]at cj;exact cj.1)
  ·exact NG cj.2 aI ax
theorem cR.inj(ok:ai.ok=ae){x y:aK}{i:H}(aA:ai.slots.lookup x=D i)(bo:ai.slots.lookup y=D i):x=y:=NG (gy ok) (mem_of_lookup aA) (mem_of_lookup bo)
theorem Ep{J:Loc}{i j:H}{v:aJ V}(cc:i≠j):c2 (J.set i v) j=c2 J j:=by
 unfold c2;rw[nW cc]
theorem Er{J:Loc}{i:H}{v:aJ V}{u:V}(h:c2 (J.set i v) i=D u):v=D u:=by
 unfold c2 at h
 by_cases l:i < J.length
 ·rw[rS l]at h;exact h
 ·rw[oY (by simpa using l)]at h;cases h
theorem eZ.zz(N:eZ X U h ai en J){y:aK}{c:aQ}(aE:(y,c)∈en.cells):c≠en.locals:=fun e=>by
 obtain⟨acs,⟨o,es,ep,aR,hd,_⟩,_⟩:=N.slots
 obtain⟨cO,dp,jY,gK⟩:=N.cell y c aE
 rw[e,aR]at jY;cases jY
 rw[hd]at gK;cases gK
theorem eZ.locals{bt:Loc}{m u9:aK->aJ al}(N:eZ X U h ai en J)(hm:h.Ns en.locals m)(aZ:aD.Ns en.locals u9)(am:∀a o,a≠en.locals->h.get? a=D o->aD.get? a=D o)
  (aY:∀y j,ai.slots.lookup y=D j->uc X U aD en u9 bt y j):eZ X U aD ai en bt:=⟨N.kind,N.glob,N.qJ,⟨u9,aZ,aY⟩,N.fD,fun y c aE=>(N.cell y c aE).elim fun cO z=>⟨cO,AD z fun o e=>am _ o (N.zz aE) e⟩,N.apart,N.fq,N.above,N.h3⟩
theorem BO{bB:aQ}(aj:∃o,aD.get? bB=D o)(am:∀a o,a≠bB->h.get? a=D o->aD.get? a=D o):Step U U [bB] h aD:=⟨(s0 am).ext,(s0 am).keep,fun a o e=>by
  by_cases q:a=bB
  ·rw[q];exact aj
  ·exact⟨o,am a o q e⟩⟩
theorem eZ.lf{x:aK}{i:H}{v:V}{val:al}{m:aK->aJ al}(N:eZ X U h ai en J)(ok:ai.ok=ae)(aA:ai.slots.lookup x=D i)(am:en.kindOf x=D .local)
  (hm:h.Ns en.locals m) (ju:∀y j,ai.slots.lookup y=D j->uc X U h en m J y j) (gM:aD.Ns en.locals (fun y=>if y=x then D val else m y)) (kr:∀a o,a≠en.locals->h.get? a=D o->aD.get? a=D o) (w:aU U h v val):
  eZ X U aD ai en (J.set i (D v)):=by
 have st:∀ {v x},aU U h v x->aU U aD v x:=fun w=>w.d8 (s0 kr) (oG (N.td _ (.head _)))
 refine N.locals hm gM kr fun y j bo=> ?_
 by_cases e:y=x
 ·refine .inl ⟨e▸am,fun u cd=>⟨val,a7 e, ?_⟩⟩
  have DZ:j=i:=bD ((e▸bo:ai.slots.lookup x=D j).symm.trans aA)
  exact bD (Er (DZ▸cd))▸st w
 ·exact(ju y j bo).to (bz e).symm (fun c aE o q=>kr _ o (N.zz (mem_of_lookup aE)) q) (Ep fun q=>e (cR.inj ok (q▸bo) aA)) st
theorem TN{l:I (aK×aQ)}{x y:aK}{c:aQ}(vv:l.Pairwise fun x y=>x.2≠y.2)(a:(y,c)∈l)(b:(x,c)∈l):y=x:=by
 induction l with
 |nil=>cases a
 |cons p l bh=>
  obtain⟨hn,gR⟩:=l5.mp vv
  cases a with
  |head=>cases b with
   |head=>rfl
   |tail _ ax=>exact absurd rfl (hn (x,c) ax)
  |tail _ aI=>cases b with
   |head=>exact absurd rfl (hn (y,c) aI)
   |tail _ ax=>exact bh gR aI ax
theorem eZ.setCell{x:aK}{i:H}{v:V}{val:al}{c:aQ}(N:eZ X U h ai en J)(ok:ai.ok=ae)(aA:ai.slots.lookup x=D i)(am:en.kindOf x=D .cell)
  (aE:en.cells.lookup x=D c) (gM:aD.IsCell c (D val)) (kr:∀a o,a≠c->h.get? a=D o->aD.get? a=D o) (w:aU U h v val):eZ X U aD ai en (J.set i (D v)):=by
 have jX:=mem_of_lookup aE
 have st:∀ {v x},aU U h v x->aU U aD v x:=fun w=>w.d8 (s0 kr) (oG (N.td _ (zy jX)))
 have tp:∀ {y:aK} {d:aQ},(y,d)∈en.cells->y≠x->d≠c:=fun{y d} hd cc e=>cc (TN N.apart (e▸hd) jX)
 obtain⟨m,hm,ju⟩:=N.slots
 refine⟨N.kind,N.glob,N.qJ,⟨m,hm.at' fun o e=>kr _ o (N.zz jX).symm e,fun y j bo=> ?_⟩,N.fD,fun y d hd=> ?_,N.apart,N.fq,N.above,N.h3⟩
 ·by_cases e:y=x
  ·refine .inr ⟨e▸am,c,_,e▸aE,gM,fun u cd=>⟨val,rfl, ?_⟩⟩
   have DZ:j=i:=bD ((e▸bo:ai.slots.lookup x=D j).symm.trans aA)
   exact bD (Er (DZ▸cd))▸st w
  ·exact(ju y j bo).to rfl (fun d hd o q=>kr _ o (tp (mem_of_lookup hd) e) q) (Ep fun q=>e (cR.inj ok (q▸bo) aA)) st
 ·by_cases e:d=c
  ·exact⟨_,e.symm▸gM⟩
  ·exact(N.cell y d hd).elim fun cO z=>⟨cO,AD z fun o q=>kr _ o e q⟩
theorem KV(am:en.scope.kind= .function):(en.scope.kind== .class||(en.scope.kind== .module && en.locals !=en.globals))=aw:=by rw[am];rfl
theorem ahp{x:aK}{i:H}{v:V}{val:al}{E:al->bb->Prop}{Q:qo->bb->Prop}(ok:ai.ok=ae)(aA:ai.slots.lookup x=D i)(R:bX X U σ s.heap)(N:eZ X U s.heap ai en J)(w:aU U s.heap v val)
  (q:∀a aD tk,a∈ownOf en->Step U U [a] s.heap aD->bX X U σ aD->eZ X U aD ai en (J.set i (D v))->(∀b o,b≠a->s.heap.get? b=D o->aD.get? b=D o)->Q () {s with heap:=aD,toks:=tk}):
  bi (bv X.prog X.w) A (storeName en x val) Q E s:=by
 obtain⟨m,hm,ju⟩:=N.slots
 have fin:∀a aD tk,a∈ownOf en->(∃o,aD.get? a=D o)->eZ X U aD ai en (J.set i (D v))->(∀b o,b≠a->s.heap.get? b=D o->aD.get? b=D o)->Q () {s with heap:=aD,toks:=tk}:=fun a aD tk aI aj SE j0=>q a aD tk aI (BO aj j0) (R.kW (N.fq _ aI) (N.td _ aI) (N.above _ aI) j0) SE j0
 rcases ju x i aA with⟨am,_⟩|⟨am,c,cO,aE,aH,_⟩
 ·exact alA am hm (fun aD gM aY=>fin _ aD _ (.head _) (let⟨o,_,_,e,_⟩:=gM;⟨o,e⟩) (N.lf ok aA am hm ju gM (fun b o ax e=>(aY.2 b ax).trans e) w) fun b o ax e=>(aY.2 b ax).trans e) (KV N.kind)
 ·exact wpAny_storeName_cell N.kind am aE aH fun aD gM aY=>fin _ aD s.toks (zy (mem_of_lookup aE)) (gM.imp fun o q=>q.1) (N.setCell ok aA am aE gM (fun b o ax e=>(aY.2 b ax).trans e) w) fun b o ax e=>(aY.2 b ax).trans e
theorem tD{x:aK}{i:H}{v:V}{val:al}{E:al->bb->Prop}{Q:qo->bb->Prop}(ok:ai.ok=ae)(aA:ai.slots.lookup x=D i)(w:aU U s.heap v val)(c:dX X n A U s ai en J σ)
  (q:∀bc,Reach (ownOf en) U s U bc->dX X n A U bc ai en (J.set i (D v)) σ->Q () bc):
  bi (bv X.prog X.w) A (storeName en x val) Q E s:=ahp ok aA c.store c.env w fun a aD tk aI S R N _=>q _ ⟨⟨aD,tk,rfl⟩,S.own fun b ax=> .inl (dt.mp ax▸aI)⟩ ⟨c.room,R,N⟩
end
end
section
open PySem.SeqAt
section
variable {X:c0}{U bj:cu}{h aD:bP}{ai eR:cR}{en:e6}{J:Loc}{σ aM bS:St}{P:c4}{C:Cl}{n:H}{A:ea}{s:bb}
theorem u8{scope:kN}(y:aK):(relabel scope en).names.lookup y=(scope.names.lookup y).map fun k=>if(k==Cx && en.scope.kind== .function && en.kindOf y==D .cell)=ae then .cell else k:=by
 unfold relabel
 generalize scope.names=l
 induction l with
 |nil=>rfl
 |cons p r bh=>
  obtain⟨a,k⟩:=p
  simp only[eI]
  by_cases e:y=a
  ·subst e
   split <;>simp_all [mS]
  ·have ne:(y==a)=aw:=n1.mpr e
   have aX:∀(c:au) (q:I (aK×kM)),List.lookup y ((if c=ae then(a,RD)else(a,k))::q)=q.lookup y:=fun c q=>by cases c <;>simp[mS,ne]
   refine(aX _ _).trans (bh.trans ?_)
   rw[mS,ne]
noncomputable def jQ(en:e6):I (aK×kM)->I (aK×aQ)->I (aK×aQ)
 |[],cs=>cs
 |(y,k)::r,cs=>if k== .free then jQ en r ((y,(en.cells.lookup y).getD 0)::cs)else jQ en r cs
theorem DC:∀(names:I (aK×kM)) (cs:I (aK×aQ)),(∀y∈names,y.2= .free->∃c,en.cells.lookup y.1=D c)->
  (forIn names cs fun(x:aK×kM) (r:I (aK×aQ))=>(if(x.2==Cx)=ae then do
   let c<-cellOf en x.1
   pure (Hw ((x.1,c)::r))else pure (Hw r):Sem (ForInStep (I (aK×aQ)))))=pure (jQ en names cs)
 |[],cs,_=>rfl
 |(y,k)::r,cs,bo=>by
  rw[List.forIn_cons]
  unfold jQ
  by_cases q:(k==Cx)=ae
  ·obtain⟨c,aE⟩:=bo (y,k) (.head _) (by simpa using q)
   simp only[q,we,cellOf,aE,Ro]
   exact DC r _ fun z hz=>bo z (.tail _ hz)
  ·simp only[q,kR]
   exact DC r _ fun z hz=>bo z (.tail _ hz)
theorem JS{scope:kN}(bo:∀y∈scope.names,y.2= .free->∃c,en.cells.lookup y.1=D c):closureFor scope en=pure (jQ en scope.names []):=by
 have:=DC (en:=en) scope.names [] bo
 simp only[closureFor]
 exact bs (fun z:Sem (I (aK×aQ))=>z >>=pure) this
theorem We{l:I (aK×aQ)}(vv:l.Pairwise fun x y=>x.2≠y.2){p q:aK×aQ}(ao:p∈l)(dx:q∈l)(cc:p.1≠q.1):p.2≠q.2:=by
 induction l with
 |nil=>cases ao
 |cons z l bh=>
  rw[l5]at vv
  rcases dj.mp ao with aI|aI <;>rcases dj.mp dx with ax|ax
  ·exact absurd (by rw[aI,ax]) cc
  ·rw[aI];exact vv.1 _ ax
  ·rw[ax];exact(vv.1 _ aI).symm
  ·exact bh vv.2 aI ax
theorem wL(ap:en.cells.Pairwise fun x y=>x.2≠y.2):∀(names:I (aK×kM)) (cs:I (aK×aQ)),(names.map (·.1)).Nodup->(∀y∈names,y.2= .free->∃c,en.cells.lookup y.1=D c)->
  (∀p∈cs,p.1∉names.map (·.1)/\en.cells.lookup p.1=D p.2)->(cs.Pairwise fun x y=>x.2≠y.2)->
  ((jQ en names cs).Pairwise fun x y=>x.2≠y.2)/\(∀p∈jQ en names cs,en.cells.lookup p.1=D p.2)/\
   (∀y c,((y,Cx)∈names/\en.cells.lookup y=D c)\/cs.lookup y=D c->(jQ en names cs).lookup y=D c)
 |[],cs,_,_,ag,ah=>⟨ah,fun p ao=>(ag p ao).2,fun y c q=>by rcases q with⟨a,_⟩|q;simp at a;exact q⟩
 |(x,k)::r,cs,cj,bH,ag,ah=>by
  rw[eI,hH]at cj
  unfold jQ
  by_cases q:(k==Cx)=ae
  ·obtain⟨fA,ia⟩:=bH (x,k) (.head _) (by simpa using q)
   simp only[q,we,ia,Ro]
   obtain⟨a1,c1,e0⟩:=wL ap r ((x,fA)::cs) cj.2 (fun z hz=>bH z (.tail _ hz)) (fun p ao=>by
    rcases dj.mp ao with rfl|ao
    ·exact⟨cj.1,ia⟩
    ·have:=ag p ao
     exact⟨fun z=>this.1 (by simp only[eI];exact .tail _ z),this.2⟩) (l5.mpr ⟨fun p ao=>by
      have:=ag p ao
      exact We ap (p:=(x,fA)) (mem_of_lookup ia) (mem_of_lookup this.2) fun e=>this.1 (by simp only[eI];exact e▸ .head _),ah⟩)
   refine⟨a1,c1,fun y c z=>e0 y c ?_⟩
   rcases z with⟨gx,hF⟩|z
   ·rcases dj.mp gx with e|e
    ·cases e
     rw[ia]at hF;cases hF
     exact .inr (by simp)
    ·exact .inl ⟨e,hF⟩
   ·refine .inr ?_
    have cc:y≠x:=fun e=>(ag _ (mem_of_lookup z)).1 (by simp[e])
    simp[mS,n1.mpr cc,z]
  ·simp only[q,kR]
   obtain⟨a1,c1,e0⟩:=wL ap r cs cj.2 (fun z hz=>bH z (.tail _ hz)) (fun p ao=>⟨fun z=>(ag p ao).1 (by simp only[eI];exact .tail _ z),(ag p ao).2⟩) ah
   refine⟨a1,c1,fun y c z=>e0 y c ?_⟩
   rcases z with⟨gx,hF⟩|z
   ·rcases dj.mp gx with e|e
    ·cases e;exact absurd rfl q
    ·exact .inl ⟨e,hF⟩
   ·exact .inr z
structure r1(ai:cR)(scope:kN)(x:aK)(i:H)(eR:cR):Prop where
 kind:scope.kind= .function
 nodup:(scope.names.map (·.1)).Nodup
 p8:scope.names.lookup x=D .local
 free:∀y∈scope.names,y.2= .free->y.1∈ai.h3
 NF:∀y∈scope.names,y.2≠ .cell
 slots:eR.slots=(x,i)::ai.slots.filter fun p=>scope.names.lookup p.1==D .free
 fD:∀g∈eR.fD,scope.names.lookup g=D .globalImplicit
 h3:eR.h3=[]
 ok:eR.ok=ae
theorem xE:∀ {l:I (aK×kM)} {y:aK} {k:kM},(l.map (·.1)).Nodup->(y,k)∈l->l.lookup y=D k
 |[],_,_,_,m=>by simp at m
 |(a,b)::l,y,k,cj,m=>by
  rw[eI,hH]at cj
  rcases dj.mp m with e|e
  ·cases e;simp
  ·have:y≠a:=fun q=>cj.1 (q▸dk.mpr ⟨_,e,rfl⟩)
   simp[mS,n1.mpr this,xE cj.2 e]
theorem AU{p:aK×H->au}{y:aK}{j:H}:∀ {l:I (aK×H)},(∀a b,p (y,a)=p (y,b))->(l.filter p).lookup y=D j->l.lookup y=D j/\p (y,j)=ae
 |[],_,e=>by simp at e
 |(a,b)::l,ao,e=>by
  by_cases q:y=a
  ·subst q
   by_cases z:p (y,b)=ae
   ·simp only[HB,z,we,Rc]at e
    cases e
    exact⟨by simp,z⟩
   ·simp only[HB,z,kR]at e
    exact absurd ((ao j b).symm.trans (AU (l:=l) ao e).2) z
  ·have ne:(y==a)=aw:=n1.mpr q
   by_cases z:p (a,b)=ae
   ·simp only[HB,z,we,mS,ne]at e
    simpa[mS,ne]using AU (l:=l) ao e
   ·simp only[HB,z,kR]at e
    simpa[mS,ne]using AU (l:=l) ao e
theorem eZ.comp{scope:kN}{x:aK}{i:H}{hV:aQ}(K:r1 ai scope x i eR)(N:eZ X U h ai en J)(aZ:h.Ns hV fun _=>aa)(bH:¬foot U hV)(aP:X.h₀.get? hV=aa):
  eZ X U h eR (compEnvC scope (jQ en scope.names []) hV en) (J.set i aa):=by
 have sD:∀y∈scope.names,y.2= .free->∃c,en.cells.lookup y.1=D c:=fun y bo e=>(N.h3 y.1 (K.free y bo e)).2
 obtain⟨a1,c1,e0⟩:=wL N.apart scope.names [] K.nodup sD (by simp) .nil
 refine⟨K.kind,N.glob,N.qJ,⟨_,aZ,fun y j bo=> ?_⟩,fun g bR=> ?_,fun y c aE=>N.cell y c (mem_of_lookup (c1 _ aE)),a1,fun a aI=> ?_,fun a aI=> ?_,fun z hz=>by rw[K.h3]at hz;cases hz⟩
 ·by_cases e:y=x
  ·subst e
   rw[K.slots]at bo
   simp only[Rc,amR]at bo
   subst bo
   refine .inl ⟨?_,fun v aH=> ?_⟩
   ·show(relabel scope en).names.lookup y=_
    rw[u8,K.p8];rfl
   ·cases Er aH
  ·have EF:i≠j:=fun q=>e (cR.inj K.ok (q▸bo) (by rw[K.slots];simp))
   rw[K.slots,mS,n1.mpr e]at bo
   obtain⟨ag,ah⟩:=AU (fun _ _=>rfl) bo
   have Af:scope.names.lookup y=D .free:=by simpa using ah
   have hm:=mem_of_lookup Af
   obtain⟨am,c,aE⟩:=N.h3 y (K.free _ hm rfl)
   obtain⟨m,al0,aY⟩:=N.slots
   rcases aY y j ag with⟨q,_⟩|⟨_,fA,cO,ia,aH,q⟩
   ·rw[am]at q;cases q
   ·rw[aE]at ia;cases ia
    refine .inr ⟨?_,c,cO,e0 y c (.inl ⟨hm,aE⟩),aH,fun v aH=> ?_⟩
    ·show(relabel scope en).names.lookup y=_
     rw[u8,Af]
     simp[N.kind,am]
    ·rw[Ep EF]at aH;exact q v aH
 ·show(relabel scope en).names.lookup g=_
  rw[u8,K.fD g bR];rfl
 ·rcases dj.mp aI with rfl|aI
  ·exact bH
  ·obtain⟨p,ao,rfl⟩:=dk.mp aI
   exact N.fq _ (.tail _ (dk.mpr ⟨_,mem_of_lookup (c1 _ ao),rfl⟩))
 ·rcases dj.mp aI with rfl|aI
  ·exact aP
  ·obtain⟨p,ao,rfl⟩:=dk.mp aI
   exact N.above _ (.tail _ (dk.mpr ⟨_,mem_of_lookup (c1 _ ao),rfl⟩))
end
end
section
open PySem.SeqAt
section
variable {X:c0}{U bj:cu}{h aD:bP}{ai eR:cR}{en:e6}{J:Loc}{σ aM bS af:St}{P:c4}{C:Cl}{n:H}{A:ea}{s:bb}
noncomputable def xP:bG->au
 |.Set .. =>aw
 |_=>ae
theorem Ed{e:bG}(aZ:xP e=ae)(env:e6)(x:al):foldedSetIterable e env x=pure x:=by
 cases e <;>first|rfl|cases aZ
noncomputable def t9(X:c0)(P:c4)(C:Cl)(n:H)(ai:cR)(it:bG)(rng:au)(e:E):Prop:=∀J σ y aM vs,aG P C e J σ=D (y,aM)->(if rng then ii y else dd aM y)=D vs->
 ∀A U s en,dX X n A U s ai en J σ->bi (bv X.prog X.w) A (gn it en) (fun ln a2=>bi (bv X.prog X.w) A (pyIter ln) (fun mB bC=>i6 X A U s aM vs (eQ aM y) mB bC) b4 a2) b4 s
theorem i6.trans{vs:I V}{live:St->au}{mB:al}{bm:cu}{a2 bC:bb}(r:Reach [] U s bm a2)(q:i6 X A bm a2 σ vs live mB bC):i6 X A U s σ vs live mB bC:=by
 obtain⟨bB,Inv,bj,rfl,a,b,c,d,e⟩:=q
 exact⟨bB,Inv,bj,rfl,a,b,r.trans c,d,r.step.dead e⟩
theorem abn{it:bG}{e:E}(h0:bQ X P C n ai it e):t9 X P C n ai it aw e:=fun J σ y aM vs ag ah A U s en c=>h0.run ag c fun bm a2 val r bN w=>e7 (abp c.room.2.2 bN.store ah w) (fun _ _ q=>i6.trans r q) fun _ _ x=>x
theorem ae0{y:V}{vs:I V}{G:Prop}(h:ii y=D vs)(k:∀j:O,y= .int j->0<=j->j<=100->vs=(gl j.toNat).map (fun(i:H)=>V.int i)->G):G:=by
 cases y with
 |int j=>exact ey h fun cg e=>k j rfl cg.1 cg.2 (bD e).symm
 |none|bool _|str _|ab _|lst _|obj _=>exact cD h
theorem ae4{k:H}:∀(i:H) (x:al) (U:cu) (h:bP) (v:V),True->(∃t,x= .int (0+(i:O) * 1) t)->((gl k).map fun(i:H)=>V.int i)[i]?=D v->aU U h v x:=by
 rintro i x U h v _ ⟨t,rfl⟩ e
 obtain⟨j,q,e⟩:=Cu.mp (rR.symm.trans e)
 obtain⟨a6,bl⟩:=fj.mp q
 rw[List.getElem_range]at bl
 rw[<-e,<-bl]
 exact⟨t,by rw[ajM,QX]⟩
theorem ae5{k:O}{t:kO}{live:St->au}(bu:A.handled=aa)(R:bX X U σ s.heap)(h0:0<=k)(ag:k<=100):bi (bv X.prog X.w) A (call (.type "range") [.int k t] []) (fun ln a2=>bi (bv X.prog X.w) A (pyIter ln) (fun mB bC=>i6 X A U s σ ((gl k.toNat).map fun(i:H)=>V.int i) live mB bC) b4 a2) b4 s:=by
 refine call_range_1 ?_
 have bg:=IsRange.new s.heap 0 k 1 s.toks t (s.toks+1)
 have lF:amX 0 k 1=(k.toNat:O):=by rw[rangeSize_one];split <;>omega
 refine wpAny_pyIter_range bg (small_one (by decide) (by decide) (by omega) (by omega)) ?_
 have dG:∀(o dp:db) a vj,s.heap.get? a=D vj->((s.heap.push o).push dp).get? a=D vj:=fun o dp a vj e=>B3 e
 have a5:s.heap.get? (s.heap.objs.size+1)=aa:=iZ (eJ _)
 rw[show∀o:db,(s.heap.push o).objs.size=s.heap.objs.size+1 from fun o=>yK ..]
 refine⟨_,_,U,rfl,lx.NS (Walks.range (A:=A) bu (s.heap.objs.size+1) 0 1 k.toNat) (by rw[d5,Rb]) (fun i h st=>vg st rfl) (fun _ _=>True) ae4 (fun _ _ _ _ _ _ _ _=>trivial),⟨?_,trivial,R.fq a5,R.yo a5,fun b ax cc=>absurd (dt.mp ax) cc⟩,⟨⟨_,_,rfl⟩,Step.of_keeps _ _ (dG _ _)⟩,R.keeps (dG _ _),a5⟩
 show IsRangeIter _ _ _ _ _
 rw[lF]
 have:=iL (s.heap.push {cls:= .type "range",data:= .fields #[.int 0 s.toks,.int k t,.int 1 (s.toks+1)]}) (o:= {cls:= .type "range_iterator",data:= .fields #[rawInt 0,rawInt (k.toNat:O),rawInt 1]}) rfl
 rw[yK]at this
 simpa using this
theorem abm{a:bG}{e:E}{p pos:c3}(B:o8 X)(aA:(hS "range")∈ai.fD)(aI:f0 a=ae)(h0:bQ X P C n ai a e):t9 X P C n ai (.Call (.Name "range" p) [a] [] pos) ae e:=fun J σ y aM vs ag ah A U s en c=>by
 refine ae0 ah fun k wX EG aae py=> ?_
 rw[CA,py]
 exact b9 (Fo c aA B.range.1 B.range.2 (by decide) (qM (Ph:=fun _=>True) (first:=[]) (tB aI) Nb (.cons h0 .nil) (so ag) c fun bm a2 xs r bN w=>⟨trivial,
  bK.vl (P:=fun xs=>bi (bv X.prog X.w) A (call (.type "range") xs []) _ b4 a2) w fun i3 a9=>aU.gP (a9.to wX) fun t=>e7 (ae5 c.room.2.2 bN.store EG aae) (fun _ _ q=>e7 q (fun _ _ q=>i6.trans r q) fun _ _ x=>x) fun _ _ x=>x⟩))
theorem Step.Dt{ow:I aQ}{bB:aQ}(S:Step U bj ow h aD)(a5:h.get? bB=aa){w5:bP}(am:∀b o,b≠bB->aD.get? b=D o->w5.get? b=D o):Step U bj ow h w5:=
 have ne:∀ {a:aQ} {o:db},h.get? a=D o->a≠bB:=fun e q=>by rw[q,a5]at e;cases e
 ⟨S.ext,fun a o e bH aZ=>am _ _ (ne e) (S.keep a o e bH aZ),fun a o e=>(S.live a o e).elim fun dp cH=>⟨dp,am _ _ (ne e) cH⟩⟩
theorem Step.kW{bB:aQ}(S:Step U bj [] h aD)(a5:h.get? bB=aa){w5:bP}(am:∀b o,b≠bB->aD.get? b=D o->w5.get? b=D o):Step U bj [] h w5:=S.Dt a5 am
structure TurnOk(X:c0)(P:c4)(C:Cl)(n:H)(eR:cR)(ifs:I bG)(elt:bG)(eU:aJ E)(jH:E):Prop where
 elt:bQ X P C n eR elt jH
 ifs:(ifs=[]/\eU=aa)\/∃t e,ifs=[t]/\eU=D e/\SB X P C n eR t e
structure bL(X:c0)(n:H)(A:ea)(ai:cR)(en:e6)(Inv:H->cu->bP->Prop)(own:I aQ)(U:cu)(s:bb)(j:H)(bj:cu)(bc:bb)(J:Loc)(aF:St):Prop where
 r:Reach own U s bj bc
 c:dX X n A bj bc ai en J aF
 inv:Inv j bj bc.heap
section
variable {bB:aQ}{vs:I V}{live:KK.St->au}{Inv:H->cu->bP->Prop}{own:I aQ}{j:H}{bc:bb}{aF l9:KK.St}
theorem bL.item(e5:lx X A bB vs live Inv)(a:bL X n A ai en Inv own U s j bj bc J aF)(a5:bB∈own)(aZ:bB∉ownOf en){aD:bP}{tk:H}(uT:Inv (j+1) bj aD)(am:∀b o,b≠bB->bc.heap.get? b=D o->aD.get? b=D o):
  bL X n A ai en Inv own U s (j+1) bj {bc with heap:=aD,toks:=tk} J aF:=
 have o:=e5.own _ _ _ a.inv
 have S:=BO (e5.own _ _ _ uT).2.2.2 am
 ⟨a.r.trans ⟨⟨aD,tk,rfl⟩,S.own (oG (.inl a5))⟩,⟨a.c.room,a.c.store.kW o.1 o.2.1 o.2.2.1 am,a.c.env.step S (oG o.2.1) fun b ax q=>aZ (dt.mp q▸ax)⟩,uT⟩
theorem bL.more(e5:lx X A bB vs live Inv)(a:bL X n A ai en Inv own U s j bj bc J aF){cC:cu}{bC:bb}(r:Reach [] bj bc cC bC)(R:bX X cC l9 bC.heap):bL X n A ai en Inv own U s j cC bC J l9:=⟨a.r.trans (r.tG (by simp)),a.c.next r R,e5.move _ _ _ _ _ _ a.inv r.step (by simp) (by simp)⟩
theorem bL.store(e5:lx X A bB vs live Inv)(a:bL X n A ai en Inv own U s j bj bc J aF){x:aK}{i:H}{v:V}{val:al}{E:al->bb->Prop}{Q:qo->bb->Prop}(ok:ai.ok=ae)(aA:ai.slots.lookup x=D i)(am:en.kindOf x=D .local)(aj:en.locals∈own)(a5:bB∉ownOf en)
  (w:aU bj bc.heap v val) (q:∀bC,bL X n A ai en Inv own U s j bj bC (J.set i (D v)) aF->Q () bC):bi (bv X.prog X.w) A (storeName en x val) Q E bc:=by
 obtain⟨m,hm,ju⟩:=a.c.env.slots
 have ew:en.locals∈ownOf en:= .head _
 refine alA am hm (fun kv aZ aY=> ?_) (KV a.c.env.kind)
 have j0:∀b o,b≠en.locals->bc.heap.get? b=D o->kv.get? b=D o:=fun b o ax e=>(aY.2 b ax).trans e
 have S:Step bj bj [en.locals] bc.heap kv:=BO (let⟨o,_,_,e,_⟩:=aZ;⟨o,e⟩) j0
 have ns:=a.c.env.td _ ew
 exact q _ ⟨a.r.trans ⟨⟨kv,_,rfl⟩,S.own (oG (.inl aj))⟩,⟨a.c.room,a.c.store.kW (a.c.env.fq _ ew) ns (a.c.env.above _ ew) j0,a.c.env.lf ok aA am hm ju aZ j0 w⟩,e5.move _ _ _ _ _ _ a.inv S (oG ns) fun z=>a5 (dt.mp z▸ew)⟩
end
section
variable {elt iter:bG}{ifs:I bG}{scope:kN}{pos:c3}{x:aK}{px:c3}{i:H}{jH:E}{eU:aJ E}{vs:I V}{live:KK.St->au}
theorem Wr{d:H}{ck:V->KK.St->aJ (au×KK.St)}{f:V->KK.St->aJ (V×KK.St)}{v:V}{aF:KK.St}{G:Prop}(h:gH d ck f live (v::vs) aF=D af)
  (k:live aF=ae->∀b dW,ck v aF=D (b,dW)->(b=aw->gH d ck f live vs dW=D af)->(b=ae->∃x hU cb,f v dW=D (x,hU)/\hU[d]?=D (.list cb)/\cb.length < a4/\gH d ck f live vs (hU.set d (.list (cb++ [x])))=D af)->G):G:=by
 refine ey h fun aj h=>br h fun p ag h=> ?_
 obtain⟨b,dW⟩:=p
 cases b with
 |false=>exact k aj _ _ ag (fun _=>h) fun e=>nomatch e
 |true=>exact br h fun q ah h=>wK h fun cb aN h=>ey h fun b1 h=>k aj _ _ ag (fun e=>nomatch e) fun _=>⟨q.1,q.2,cb,ah,aN,b1,h⟩
theorem Wu{bB dL:aQ}{Inv:H->cu->bP->Prop}{own:I aQ}{j d:H}{bc:bb}{aF dW:KK.St}{b:au}{N:bb->Prop}{lr:al->bb->Prop}{go:KK.St->Prop}(T:TurnOk X P C n eR ifs elt eU jH)(e5:lx X A bB vs live Inv)(a:bL X n A eR en Inv own U s j bj bc J aF)(hd:bj[d]?=D (dL,dL))
  (ag:gC P C eU J aF=D (b,dW)) (bH:b=aw->go dW) (aP:b=ae->∃x hU cb,aG P C jH J dW=D (x,hU)/\hU[d]?=D (.list cb)/\cb.length < a4/\go (hU.set d (.list (cb++ [x]))))
  (next:∀cC bC hU,bL X n A eR en Inv own U s j cC bC J hU->go hU->N bC):
  bi (bv X.prog X.w) A (forIn ifs ae fun c r=>if r=ae then do let ok<-nZ c en (gn c en);pure (Hw ok)else pure (Hw r)) (fun ok dH=>
   if ok=ae then bi (bv X.prog X.w) A (gn elt en) (fun x vI=>bi (bv X.prog X.w) A (call (.builtin "list.append") [.ref dL,x]) (fun _ G5=>N G5) lr vI) lr dH else N dH) lr bc:=by
 have after:∀ {fR:cu} {dH:bb},Reach [] bj bc fR dH->dX X n A fR dH eR en J dW->(if b=ae then bi (bv X.prog X.w) A (gn elt en) (fun x vI=>bi (bv X.prog X.w) A (call (.builtin "list.append") [.ref dL,x]) (fun _ G5=>N G5) lr vI) lr dH else N dH):=fun{fR dH} r c=>by
  cases b with
  |false=>exact next _ _ _ (a.more e5 r c.store) (bH rfl)
  |true=>
   obtain⟨x,hU,cb,g1,g2,g3,uI⟩:=aP rfl
   refine(a7 rfl:(if ae=ae then _ else N dH)=_)▸T.elt.run g1 c fun ama vI val gw i9 eH=> ?_
   refine listAt i9.store g2 (gw.step.get (r.step.get hd)) fun aS k _ aj aH=> ?_
   refine t3 alc ⟨_,aj,rfl⟩ ak8 ?_ (ak6 _ _)
   have hz:aS.size<=kP:=aH.size▸Bz g3
   show bi _ _ (updateSeq dL (·.push val) >>=fun _=>ret .none) _ _ vI
   obtain⟨R',iu⟩:=Bu (f:=fun xs=>xs.push val) (jts:=aS.push val) i9.store (gw.step.get (r.step.get hd)) aj rfl rfl (by rw[QN];exact aH.append (bK.one eH))
   exact b9 (R0 aj rfl (dE ⟨.none,rfl,next _ _ _ (a.more e5 ((r.trans gw).trans ⟨⟨_,vI.toks,rfl⟩,iu⟩) R') uI⟩))
 rcases T.ifs with⟨aT,aX⟩|⟨t,e,aT,aX,ax⟩
 ·rw[aT]
  rw[aX]at ag
  have q:=qj (bD (show D (ae,aF)=D (b,dW)from ag))
  refine alB ?_
  rw[<-q.1,<-q.2]at after
  exact after (Reach.refl ..) a.c
 ·rw[aT]
  rw[aX]at ag
  exact br ag fun p ah h=>br h fun fz aN b1=>by
   have q:=qj (bD b1)
   exact wpAny_tests_one (ax.run (v:=p.1) ah (q.1▸aN) a.c fun fR dH e2 hv=>after e2 (q.2▸hv))
theorem Kk{α:Type}{l:I α}{j:H}(h:l.drop j=[])(cg:j<=l.length):j=l.length:=Nat.le_antisymm cg (List.drop_eq_nil_iff.mp h)
theorem Kj{α:Type}{l r:I α}{j:H}{v:α}(h:l.drop j=v::r):l[j]?=D v/\l.drop (j+1)=r/\j+1<=l.length:=by
 have cg:j < l.length:=Ri fun q=>nomatch (List.drop_of_length_le q).symm.trans h
 rw[List.drop_eq_getElem_cons cg]at h
 injection h with ag ah
 exact⟨by rw[<-ag];exact hG cg,ah,cg⟩
theorem Wt{bB dL:aQ}{Inv:H->cu->bP->Prop}{d:H}{aF:KK.St}{R:Result->bb->Prop}(T:TurnOk X P C n eR ifs elt eU jH)(e5:lx X A bB vs live Inv)(ok:eR.ok=ae)(aA:eR.slots.lookup x=D i)(am:en.kindOf x=D .local)(Lp:bB∉ownOf en)
  (hd:U[d]?=D (dL,dL)) (c:dX X n A U s eR en (J.set i aa) aF) (inv:Inv 0 U s.heap) (EE:gH d (fun v aF=>gC P C eU (J.set i (D v)) aF) (fun v aF=>aG P C jH (J.set i (D v)) aF) live vs aF=D af)
  (ED:∀bj bc w aD tk,bL X n A eR en Inv [bB,en.locals] U s vs.length bj bc (J.set i w) af->(∀b o,b≠bB->bc.heap.get? b=D o->aD.get? b=D o)->R (.ok .next) {bc with heap:=aD,toks:=tk}):
  codeAny (bv X.prog X.w) A (.compLoop (.ListComp elt [⟨.Name x px,iter,ifs,0⟩] scope pos) 0 (.ref bB) (.ref dL) en) R s:=by
 obtain⟨lv,nh⟩:∃lv:H->bb->Prop,∀k bc,lv k bc↔∃j bj aF w,k=vs.length - j/\j<=vs.length/\bL X n A eR en Inv [bB,en.locals] U s j bj bc (J.set i w) aF/\gH d (fun v aF=>gC P C eU (J.set i (D v)) aF) (fun v aF=>aG P C jH (J.set i (D v)) aF) live (vs.drop j) aF=D af:=⟨_,fun _ _=>Hx⟩
 refine codeAny_compLoop_tests lv (fun k bc cg=>oa fun G bV=> ?_) vs.length ((nh _ _).mpr ⟨0,U,aF,aa,rfl,kL _,⟨Reach.refl ..,c,inv⟩,EE⟩)
 obtain⟨j,bj,aF,w,EJ,cg,a,go⟩:=(nh _ _).mp cg
 cases aH:vs.drop j with
 |nil=>
  have e:=Kk aH cg
  rw[aH]at go
  exact ey go fun aj go=>bV (e5.done bj _ bc _ _ aj a.c.store (e▸a.inv) fun aD tk am=>ED bj bc w aD tk (e▸(bD go:aF=af)▸a) am)
 |cons v rest=>
  obtain⟨m7,dv,eM⟩:=Kj aH
  rw[aH]at go
  refine Wr go fun aj b dW g1 Zy gt=>bV (e5.item j bj aF bc v _ _ m7 aj a.c.store a.inv fun ln aD tk hw uT ic=> ?_)
  refine CC ((a.item e5 (.head _) Lp uT ic).store e5 ok aA am (.tail _ (.head _)) Lp hw fun bC c1=> ?_)
  rw[Cq]at c1
  exact Wu T e5 c1 (c1.r.step.get hd) g1 Zy gt fun cC bC hU e0 g=>⟨vs.length - (j+1),EJ▸akw eM (rV j),(nh _ _).mpr ⟨j+1,cC,hU,D v,rfl,eM,e0,dv▸g⟩⟩
theorem ac5{dL hV:aQ}(h:¬foot U hV)(cc:hV≠dL):¬foot (U++ [(dL,dL)]) hV:=by
 rw[Ee]
 rintro (q|⟨p,ao,q⟩)
 ·exact h q
 ·rw[dt.mp ao]at q;exact q.elim cc cc
theorem JV{first:Sem al}{use:aJ (al->Sem qo)}{Q:al->bb->Prop}{Zl:c3}
  (K:r1 ai scope x i eR) (q6:xP iter=ae) (T:TurnOk X P C n eR ifs elt eU jH)
  (Z8:bi (bv X.prog X.w) A first (fun ln a2=>bi (bv X.prog X.w) A (pyIter ln) (fun mB bC=>i6 X A U s aM vs live mB bC) b4 a2) b4 s)
  (EE:gH aM.length (fun v aF=>gC P C eU (J.set i (D v)) aF) (fun v aF=>aG P C jH (J.set i (D v)) aF) live vs (aM++ [.list []])=D af)
  (c:dX X n A U s ai en J σ)
  (ED:∀bj bc dL hV m,Reach [] U s bj bc->bX X bj af bc.heap->aU bj bc.heap (.obj aM.length) (.ref dL)->bc.heap.Ns hV m->¬foot bj hV->X.h₀.get? hV=aa->s.heap.get? hV=aa->compPost (bv X.prog X.w) A b4 use Q (.ref dL) hV (.ok .next) bc):
  bi (bv X.prog X.w) A (comprehension (.ListComp elt [⟨.Name x px,iter,ifs,0⟩] scope pos) scope en Zl (newList []) aw first use) Q b4 s:=by
 have sD:∀y∈scope.names,y.2= .free->∃c,en.cells.lookup y.1=D c:=fun y bo e=>(c.env.h3 y.1 (K.free y bo e)).2
 refine wpAny_comprehension_free (cl:=jQ en scope.names []) rfl (Ed q6 en) (JS sD) K.kind (fun y bo e=>by obtain⟨a,b⟩:=y;exact e▸xE K.nodup bo) (e7 Z8 (fun ln a2 jZ=>e7 jZ (fun mB bC kv=>oa fun G bV=> ?_) fun _ _ x=>x) fun _ _ x=>x)
 obtain⟨bB,Inv,cC,hg,e5,AB,b3,mh,a5⟩:=kv
 rw[hg]at bV
 refine bV (CD (wpAny_newFunctionEnv K.NF (fun y bo=>nomatch bo) (fun jZ ER At=>oa fun G bV=> ?_) K.kind))
 have DY:(bC.heap.push {cls:= .type "list",data:= .seq ([]:I al).toArray}).objs.size=bC.heap.objs.size+1:=yK ..
 dsimp only at ER At bV
 rw[DY]at ER At bV
 have Lm:bC.heap.get? bC.heap.objs.size=aa:=sv _
 have w8:bC.heap.get? (bC.heap.objs.size+1)=aa:=iZ (eJ _)
 have pU:∀b o,bC.heap.get? b=D o->jZ.get? b=D o:=fun b o e=>(At.2 b (hI (nY (o4 e)))).trans (B3 e)
 have ZG:jZ.get? bC.heap.objs.size=D {cls:= .type "list",data:= .seq #[]}:=(At.2 _ (hI (rV _))).trans (hJ _ (iL _ rfl))
 obtain⟨SY,IA⟩:=mh.alloc (c:= .list []) (p:=(bC.heap.objs.size,bC.heap.objs.size)) Lm Lm pU ⟨rfl, #[],⟨0,ZG⟩,rfl⟩
 have ac4:=ac5 (mh.fq w8) (akA bC.heap.objs.size)
 have ZJ:=(e5.own _ _ _ AB).2.2.2
 have Lo:bB≠bC.heap.objs.size+1:=fun e=>ZJ.elim fun o aR=>nomatch (e▸aR:bC.heap.get? (bC.heap.objs.size+1)=D o).symm.trans w8
 have gj:Reach [] U s (cC++ [(bC.heap.objs.size,bC.heap.objs.size)]) {bC with heap:=jZ,toks:=bC.toks+([]:I (aK×al)).length}:=b3.trans ⟨⟨_,_,rfl⟩,IA⟩
 have inv1:=e5.move _ _ _ _ _ _ AB IA (by simp) (by simp)
 have Jp:s.heap.get? (bC.heap.objs.size+1)=aa:=b3.step.dead w8
 have fV:dX X n A (cC++ [(bC.heap.objs.size,bC.heap.objs.size)]) {bC with heap:=jZ,toks:=bC.toks+([]:I (aK×al)).length} eR (compEnvC scope (jQ en scope.names []) (bC.heap.objs.size+1) en) (J.set i aa) (aM++ [.list []]):=⟨c.room,SY,eZ.comp K (c.env.Ku gj.step) ER ac4 (mh.yo w8)⟩
 have vo:bB∉ownOf (compEnvC scope (jQ en scope.names []) (bC.heap.objs.size+1) en):=fun q=>by
  rcases dj.mp q with e|q
  ·exact Lo e
  ·obtain⟨p,ao,e⟩:=dk.mp q
   obtain⟨cO,o,aR,_⟩:=c.env.cell p.1 p.2 (mem_of_lookup ((wL c.env.apart scope.names [] K.nodup sD (by simp) .nil).2.1 p ao))
   exact nomatch (e▸aR:s.heap.get? bB=D o).symm.trans a5
 have nj:(compEnvC scope (jQ en scope.names []) (bC.heap.objs.size+1) en).kindOf x=D .local:=by
  show(relabel scope en).names.lookup x=_
  rw[u8,K.p8];rfl
 have loop:=Wt (iter:=iter) (scope:=scope) (pos:=pos) (px:=px) (R:=compPost (bv X.prog X.w) A b4 use Q (.ref bC.heap.objs.size) (bC.heap.objs.size+1)) T e5 K.ok (by rw[K.slots];exact Rc) nj vo (tc mh) fV inv1 EE fun bj bc w aD tk a am=>by
  have aea:∀b∈ [bB,bC.heap.objs.size+1],b∈([]:I aQ)\/s.heap.get? b=aa:=fun b ax=> .inr (by
   rcases dj.mp ax with e|ax
   ·exact e▸a5
   ·exact dt.mp ax▸Jp)
  have r:Reach [] U s bj bc:=(Reach.trans (gj.tG (by simp)) a.r).tG aea
  obtain⟨jz,pT,adw,_⟩:=e5.own _ _ _ a.inv
  obtain⟨bu,tH,e⟩:=r.same
  obtain⟨m,hm,_⟩:=a.c.env.slots
  exact ED bj _ _ _ m ⟨⟨aD,tk,by rw[e]⟩,Step.kW r.step a5 am⟩ (a.c.store.kW jz pT adw am) ⟨_,a.r.step.get (tc mh),rfl⟩ (hm.at' fun o e=>am _ o Lo.symm e) (a.c.env.fq _ (.head _)) (mh.yo w8) Jp
 exact bV (codeAny_compStart_list loop (e5.self 0 _ _ _ _ inv1 loop))
end
end
end
section
open PySem.SeqAt
section
variable {X:c0}{U bj:cu}{h aD:bP}{ai eR:cR}{en:e6}{J bt:Loc}{σ aM bS af:St}{P:c4}{C:Cl}{n:H}{A:ea}{s:bb}
theorem NN{a:aQ}{m:aK->aJ al}(aZ:h.Ns a m):ha h a:=fun o aS k e q=>by
 obtain⟨dp,es,ep,cH,d,_⟩:=aZ
 rw[e]at cH;cases cH
 rw[q]at d;cases d
theorem O2{elt iter:bG}{ifs:I bG}{scope:kN}{pos:c3}{x:aK}{px:c3}{i:H}{jH e:E}{eU:aJ E}{rng:au}
  (K:r1 ai scope x i eR) (q6:xP iter=ae) (T:TurnOk X P C n eR ifs elt eU jH) (hi:t9 X P C n ai iter rng e):
  bQ X P C n ai (.ListComp elt [⟨.Name x px,iter,ifs,0⟩] scope pos) (.comp jH i rng e eU):= .intro fun J σ A U s en c y aM ag vs ah aF aN=>by
 rw[eval_ListComp]
 refine JV K q6 T (hi J σ y aM vs ag ah A U s en c) aN c fun bj bc dL hV m r R w aZ bH aP ax=>⟨m,aZ,fun aD aY=> ?_⟩
 obtain⟨bu,tH,e⟩:=r.same
 have j0:∀b o,b≠hV->bc.heap.get? b=D o->aD.get? b=D o:=fun b o cc e=>(aY.2 b cc).trans e
 exact⟨bj,⟨⟨aD,tH,by rw[e]⟩,Step.kW r.step ax j0⟩,R.kW bH (NN aZ) aP j0,w⟩
noncomputable def wj(U:cu)(h:bP):ev->Flow->Prop
 |.next,.next=>True
 |.brk,.brk=>True
 |.cont,.cont=>True
 |.ret v,.ret x=>aU U h v x
 |_,_=>False
noncomputable def fO(X:c0)(n:H)(A:ea)(ai:cR)(en:e6)(U:cu)(s:bb)(f:ev)(bt:Loc)(af:St)(fl:Flow)(bc:bb):Prop:=∃bj,wj bj bc.heap f fl/\Reach (ownOf en) U s bj bc/\dX X n A bj bc ai en bt af
noncomputable def hb(X:c0)(P:c4)(C:Cl)(n:H)(ai:cR)(t:gV)(b:S):Prop:=∀J σ f bt af,gI P C b J σ=D (f,bt,af)->∀A U s en,dX X n A U s ai en J σ->
 bi (bv X.prog X.w) A (exec t en) (fO X n A ai en U s f bt af) b4 s
noncomputable def lw(X:c0)(P:c4)(C:Cl)(n:H)(ai:cR)(t:I gV)(b:I S):Prop:=∀J σ f bt af,cQ P C b J σ=D (f,bt,af)->∀A U s en,dX X n A U s ai en J σ->
 bi (bv X.prog X.w) A (execs t en) (fO X n A ai en U s f bt af) b4 s
theorem lw.run{lr:al->bb->Prop}{t:I gV}{b:I S}{f:ev}{Q:Flow->bb->Prop}(h:lw X P C n ai t b)(he:cQ P C b J σ=D (f,bt,af))(c:dX X n A U s ai en J σ)
  (k:∀bm a2 fl,wj bm a2.heap f fl->Reach (ownOf en) U s bm a2->dX X n A bm a2 ai en bt af->Q fl a2):bi (bv X.prog X.w) A (execs t en) Q lr s:=e7 (h J σ f bt af he A U s en c) (fun val a2 q=>let⟨bm,w,r,c⟩:=q;k bm a2 val w r c) fun _ _ x=>x.elim
theorem Reach.wide{ow:I aQ}{bm:cu}{a2:bb}(r:Reach [] U s bm a2):Reach ow U s bm a2:=r.tG (by simp)
theorem fO.trans{bm:cu}{a2 bC:bb}{f:ev}{fl:Flow}(r:Reach (ownOf en) U s bm a2)(q:fO X n A ai en bm a2 f bt af fl bC):fO X n A ai en U s f bt af fl bC:=
 let⟨cC,w,b3,c⟩:=q;⟨cC,w,r.trans b3,c⟩
noncomputable def Ok:V->au
 |.none|.bool _|.int _=>ae
 |.str _|.ab _|.lst _|.obj _=>aw
noncomputable def L2(P:c4)(C:Cl)(ar:ev->Loc->St->Prop)(J:Loc)(σ:St):S->Prop
 |.set i e=>∀v af,aG P C e J σ=D (v,af)->ar .next (J.set i (D v)) af
 |.rz i e=>∀v af,aG P C e J σ=D (v,af)->∀w,yc v=D w->ar .next (J.set i (D w)) af
 |.mN i j e=>∀a b af,aG P C e J σ=D (.ab [a,b],af)->ar .next ((J.set i (D a)).set j (D b)) af
 |.cT o a e=>∀v aM,aG P C e J σ=D (v,aM)->∀n bS,aG P C o J aM=D (.obj n,bS)->∀c fs,bS[n]?=D (.inst c fs)->(P.fld c a && decide (fs.length < 100))=ae->ar .next J (bS.set n (.inst c (jU fs a v)))
 |.fG o i e=>∀v aM,aG P C e J σ=D (v,aM)->∀n bS,aG P C o J aM=D (.obj n,bS)->∀k fT,aG P C i J bS=D (k,fT)->
   (∀aW kvs,fT[n]?=D (.dict aW kvs)->(aW.ok k && decide (kvs.length < a4))=ae->ar .next J (fT.set n (.dict aW (dI kvs k v))))/\
   (∀vs j,fT[n]?=D (.list vs)->k= .int j->0<=j/\j < vs.length/\vs.length<=a4->ar .next J (fT.set n (.list (vs.set j.toNat v))))
 |.n7 o a p e=>∀n aM,aG P C o J σ=D (.obj n,aM)->∀c fs,aM[n]?=D (.inst c fs)->∀u,mr fs a=D u->∀v bS,aG P C e J aM=D (v,bS)->∀z,hM p u v=D (.int z)->
   ∀c fs,bS[n]?=D (.inst c fs)->(P.fld c a && decide (fs.length < 100))=ae->ar .next J (bS.set n (.inst c (jU fs a (.int z))))
 |.ret e=>∀v af,aG P C e J σ=D (v,af)->ar (.ret v) J af
 |.iff c a b=>∀x aM,aG P C c J σ=D (x,aM)->(eh aM x=D ae->∀f bt af,cQ P C a J aM=D (f,bt,af)->ar f bt af)/\(eh aM x=D aw->∀f bt af,cQ P C b J aM=D (f,bt,af)->ar f bt af)
 |.for i rng it b=>∀y aM,aG P C it J σ=D (y,aM)->∀vs,(if rng then ii y else dd aM y)=D vs->∀f bt af,h8 (eQ aM y) i (fun J σ=>cQ P C b J σ) vs J aM=D (f,bt,af)->ar f bt af
 |.while n c b=>∀f bt af,l0 (fun J σ=>(aG P C c J σ).bind fun(v,σ)=>(eh σ v).bind fun t=>D (t,σ)) (fun J σ=>cQ P C b J σ) n J σ=D (f,bt,af)->ar f bt af
 |.expr e=>∀v af,aG P C e J σ=D (v,af)->Ok v=ae->ar .next J af
 |.mo o k=>∀n aM,aG P C o J σ=D (.obj n,aM)->∀x bS,aG P C k J aM=D (x,bS)->∀kvs,bS[n]?=D (.dict .t kvs)->(gp.t.ok x && mE kvs x && decide (kvs.length<=a4))=ae->ar .next J (bS.set n (.dict .t (lH kvs x)))
 |.qQ o lo=>∀n aM,aG P C o J σ=D (.obj n,aM)->∀i bS,aG P C lo J aM=D (.int i,bS)->∀vs,bS[n]?=D (.list vs)->0<=i/\vs.length<=a4->ar .next J (bS.set n (.list (vs.take i.toNat)))
 |.cont=>ar .cont J σ
 |.bad=>True
theorem j9{α dg R4:Type}{a mi:α}{b fz:dg}{c fA:R4}{ar:α->dg->R4->Prop}(h:D (a,b,c)=D (mi,fz,fA))(k:ar a b c):ar mi fz fA:=by cases h;exact k
theorem Xs{P:c4}{C:Cl}{ar:ev->Loc->St->Prop}{J bt:Loc}{σ af:St}{t:S}{f:ev}(h:gI P C t J σ=D (f,bt,af))(k:L2 P C ar J σ t):ar f bt af:=by
 cases t with
 |set i e=>exact br h fun p ag h=>j9 h (k p.1 p.2 ag)
 |rz i e=>exact br h fun p ag h=>br h fun w ah h=>j9 h (k p.1 p.2 ag w ah)
 |mN i j e=>
  refine br h fun p ag h=> ?_
  obtain⟨v,aF⟩:=p
  cases v with
  |ab l=>
   cases l with
   |nil=>exact cD h
   |cons a l=>cases l with
    |nil=>exact cD h
    |cons b l=>cases l with
     |nil=>exact j9 h (k a b aF ag)
     |cons _ _=>exact cD h
  |none|bool _|int _|str _|lst _|obj _=>exact cD h
 |cT o a e=>exact br h fun p ag h=>br h fun q ah h=>nF h fun n e h=>zx h fun c fs aN h=>ey h fun b1 h=>j9 h (k p.1 p.2 ag n q.2 (e▸ah) c fs aN b1)
 |fG o i e=>
  refine br h fun p ag h=>br h fun q ah h=>br h fun r aN h=>nF h fun n e h=> ?_
  have k:=k p.1 p.2 ag n q.2 (e▸ah) r.1 r.2 aN
  cases z:r.2[n]? with
  |none=>rw[z]at h;exact cD h
  |some c=>
   rw[z]at h
   cases c with
   |dict aW kvs=>exact ey h fun b1 h=>j9 h (k.1 aW kvs z b1)
   |list vs=>exact Ay h fun j e h=>ey h fun b1 h=>j9 h (k.2 vs j z e b1)
   |inst _ _=>exact cD h
 |n7 o a p e=>
  refine br h fun p ag h=>nF h fun n e h=>zx h fun c fs ah h=>br h fun u aN h=>br h fun q b1 h=>br h fun z ef h=> ?_
  cases z with
  |int z=>
   cases y:q.2[n]? with
   |none=>rw[y]at h;exact cD h
   |some fA=>
    rw[y]at h
    cases fA with
    |inst fA K1=>exact ey h fun c7 h=>j9 h (k n p.2 (e▸ag) c fs ah u aN q.1 q.2 b1 z ef fA K1 y c7)
    |list _|dict _ _=>exact cD h
  |none|bool _|str _|ab _|lst _|obj _=>exact cD h
 |ret e=>exact br h fun p ag h=>j9 h (k p.1 p.2 ag)
 |iff c a b=>exact br h fun p ag h=>br h fun t ah h=>match t,ah,h with
  |true,ah,h=>(k p.1 p.2 ag).1 ah f bt af h
  |false,ah,h=>(k p.1 p.2 ag).2 ah f bt af h
 | «for» i rng it b=>exact br h fun p ag h=>br h fun vs ah h=>k p.1 p.2 ag vs ah f bt af h
 | «while» n c b=>exact k f bt af h
 |expr e=>
  refine br h fun p ag h=> ?_
  obtain⟨v,aF⟩:=p
  cases v <;>first|exact cD h|exact j9 h (k _ aF ag rfl)
 |mo o x=>
  refine br h fun p ag h=>br h fun q ah h=>nF h fun n e h=> ?_
  cases z:q.2[n]? with
  |none=>rw[z]at h;exact cD h
  |some c=>
   rw[z]at h
   cases c with
   |dict aW kvs=>cases aW with
    |t=>exact ey h fun b1 h=>j9 h (k n p.2 (e▸ag) q.1 q.2 ah kvs z b1)
    |i|s=>exact cD h
   |list _|inst _ _=>exact cD h
 |qQ o lo=>
  refine br h fun p ag h=>br h fun q ah h=> ?_
  obtain⟨x,aF⟩:=p
  obtain⟨y,l9⟩:=q
  cases x <;>first|exact cD h|skip
  cases y <;>first|exact cD h|skip
  exact wK h fun vs aN h=>ey h fun b1 h=>j9 h (k _ aF ag _ l9 ah vs aN b1)
 |cont=>exact j9 h k
 |bad=>exact cD h
@[elab_as_elim] theorem wj.cases{g:ev}{fl:Flow}{P:Flow->Prop}(w:wj U h g fl)(ag:g= .next->P .next)(ah:g= .cont->P .cont)(aN:g= .brk->P .brk)(b1:∀u x,g= .ret u->aU U h u x->P (.ret x)):P fl:=by
 cases g <;>cases fl <;>first|exact w.elim|exact ag rfl|exact ah rfl|exact aN rfl|exact b1 _ _ rfl w
theorem hb.intro{t:gV}{b:S}(pa:∀J σ A U s en,dX X n A U s ai en J σ->L2 P C (fun f bt af=>bi (bv X.prog X.w) A (exec t en) (fO X n A ai en U s f bt af) b4 s) J σ b):hb X P C n ai t b:=fun J σ f bt af h A U s en c=>Xs (ar:=fun f bt af=>bi (bv X.prog X.w) A (exec t en) (fO X n A ai en U s f bt af) b4 s) h (pa J σ A U s en c)
theorem ahi:lw X P C n ai [] []:=fun J σ f bt af h A U s en c=>j9 (ar:=fun f bt af=>bi (bv X.prog X.w) A (execs [] en) (fO X n A ai en U s f bt af) b4 s) h (RX ⟨U,trivial,Reach.refl ..,c⟩)
theorem ahh{t:gV}{ts:I gV}{b:S}{av:I S}(aP:hb X P C n ai t b)(aaM:lw X P C n ai ts av):lw X P C n ai (t::ts) (b::av):=fun J σ f bt af h A U s en c=>br h fun p ag ah=>by
 obtain⟨g,d6,aM⟩:=p
 refine wpAny_execs_cons (e7 (aP J σ g d6 aM ag A U s en c) (fun fl a2 q=> ?_) fun _ _ x=>x)
 obtain⟨bm,w,r,bN⟩:=q
 have stop:∀ {g fl},wj bm a2.heap g fl->D (g,d6,aM)=D (f,bt,af)->fO X n A ai en U s f bt af fl a2:=fun w e=>j9 (ar:=fun f bt af=>fO X n A ai en U s f bt af _ a2) e ⟨bm,w,r,bN⟩
 refine w.cases (fun e=> ?_) (fun e=>by subst e;exact stop (g:= .cont) trivial ah) (fun e=>by subst e;exact stop (g:= .brk) trivial ah) fun u x e z=>by subst e;exact stop (g:= .ret u) z ah
 subst e
 exact e7 (aaM d6 aM f bt af ah A bm a2 en bN) (fun fl bC q=>fO.trans r q) fun _ _ x=>x
noncomputable def xM:bG->au
 |.ListComp .. =>aw
 |.SetComp .. =>aw
 |.DictComp .. =>aw
 |_=>ae
theorem BV{value:bG}(aE:xM value=ae)(t:aJ bG)(l:H)(en:e6):swapsWith value t l en=pure aw:=by
 cases value <;>first|rfl|cases aE
theorem abb(N:eZ X U h ai en J):interactive en=aw:=by unfold interactive;rw[N.kind];rfl
theorem aha{x:aK}{i:H}{fF pos:c3}{value:bG}{e:E}(ok:ai.ok=ae)(aA:ai.slots.lookup x=D i)(aE:xM value=ae)(h0:bQ X P C n ai value e):hb X P C n ai (.Assign [.Name x fF] value pos) (.set i e):= .intro fun J σ A U s en c v af ag=>RV (h0.run ag c fun bm a2 val r bN w=>tD ok aA w bN fun bC b3 ch=>⟨bm,trivial,r.wide.trans b3,ch⟩) (BV aE _ _ _)
theorem ahd{y:aK}{j:H}{fF Qd:c3}{elt iter:bG}{ifs:I bG}{scope:kN}{pos:c3}{x:aK}{px:c3}{i:H}{jH e:E}{eU:aJ E}{rng:au}(ok:ai.ok=ae)(bo:ai.slots.lookup y=D j)
  (K:r1 ai scope x i eR) (q6:xP iter=ae) (T:TurnOk X P C n eR ifs elt eU jH) (hi:t9 X P C n ai iter rng e):
  hb X P C n ai (.Assign [.Name y fF] (.ListComp elt [⟨.Name x px,iter,ifs,0⟩] scope pos) Qd) (.set j (.comp jH i rng e eU)):= .intro fun J σ A U s en c v af ag=>by
 obtain⟨b,ax⟩:∃b,swapsWith (.ListComp elt [⟨.Name x px,iter,ifs,0⟩] scope pos) (D (.Name y fF)) Qd.line en=pure b:=⟨_,rfl⟩
 cases b with
 |false=>exact RV ((O2 K q6 T hi).run ag c fun bm a2 val r bN w=>tD ok bo w bN fun bC b3 ch=>⟨bm,trivial,r.wide.trans b3,ch⟩) ax
 |true=>
  rw[exec_Assign_Name_used _ _ _ _ ax]
  refine D4 (ar:=fun v af=>bi (bv X.prog X.w) A _ (fO X n A ai en U s .next (J.set j (D v)) af) b4 s) ag fun z bS g1 vs g2 aF g3=> ?_
  refine b9 (H8 (b9 (?_:bi _ _ (evalThenUse _ _ _) (fun _ bc=>bi _ A (pure .next) (fO X n A ai en U s .next (J.set j (D (.obj bS.length))) _) b4 bc) b4 s)))
  show bi _ _ (comprehension _ _ _ _ _ _ _ (D _) >>=fun _=>pure ()) _ _ _
  refine b9 (JV K q6 T (hi J σ z bS vs g1 g2 A U s en c) g3 c fun bj bc dL hV m r R w aZ bH aP q1=> ?_)
  show bi _ _ (assign _ _ _) _ _ _
  refine CC (tD ok bo w (c.next r R) fun bC b3 ch=>oa fun G bV=> ?_)
  have Ly:hV∉ownOf en:=fun q=>(c.env.live hV q).elim fun o aR=>nomatch q1.symm.trans aR
  have uR:bC.heap.Ns hV m:=aZ.at' fun o e=>b3.step.keep _ _ e bH Ly
  refine bV ⟨m,uR,fun aD aY=>dE (dE ?_)⟩
  have j0:∀b o,b≠hV->bC.heap.get? b=D o->aD.get? b=D o:=fun b o cc e=>(aY.2 b cc).trans e
  have vz:=r.wide.trans b3
  obtain⟨bu,tH,e⟩:=vz.same
  have NL:=NN uR
  exact⟨bj,trivial,⟨⟨aD,tH,by rw[e]⟩,vz.step.Dt q1 j0⟩,c.room,ch.store.kW bH NL aP j0,ch.env.kW NL Ly j0⟩
theorem ag9{value:bG}{pos:c3}{e:E}(h0:bQ X P C n ai value e):hb X P C n ai (.Return (D value) pos) (.ret e):= .intro fun J σ A U s en c v af ag=>wpAny_Return_some (h0.run ag c fun bm a2 val r bN w=>⟨bm,w,r.wide,bN⟩)
@[elab_as_elim] theorem aew{v:V}{x:al}{P:al->Prop}(aH:Ok v=ae)(w:aU U h v x)(h0:P .none)(ag:∀b,P (.bool b))(ah:∀i t,P (.int i t)):P x:=by
 cases v with
 |none=>rw[show x= .none from w];exact h0
 |bool b=>rw[show x= .bool b from w];exact ag b
 |int i=>exact aU.gP w fun _=>ah _ _
 |str _|ab _|lst _|obj _=>cases aH
theorem ag6{value:bG}{pos:c3}{e:E}(aE:xM value=ae)(h0:bQ X P C n ai value e):hb X P C n ai (.Expr value pos) (.expr e):= .intro fun J σ A U s en c v af ag aH=>wpAny_Expr (h0.run ag c fun bm a2 val r bN w=>have q:fO X n A ai en U s .next J af .next a2:=⟨bm,trivial,r.wide,bN⟩;aew aH w q (fun _=>q) fun _ _=>q) (abb c.env) (BV aE _ _ _)
theorem ag8{rG:bG}{body N7:I gV}{pos:c3}{eU:E}{a b:I S}(aE:SB X P C n ai rG eU)(aI:lw X P C n ai body a)(ax:lw X P C n ai N7 b):hb X P C n ai (.If rG body N7 pos) (.iff eU a b):= .intro fun J σ A U s en c x aM ag=>⟨fun ah f bt af aN=>wpAny_If (aE.run ag ah c fun bm a2 r bN=>e7 (aI J aM f bt af aN A bm a2 en bN) (fun fl bC q=>fO.trans r.wide q) fun _ _ x=>x),
  fun ah f bt af aN=>wpAny_If (aE.run ag ah c fun bm a2 r bN=>e7 (ax J aM f bt af aN A bm a2 en bN) (fun fl bC q=>fO.trans r.wide q) fun _ _ x=>x)⟩
theorem ag3{pos:c3}:hb X P C n ai (.Continue pos) .cont:= .intro fun J σ A U s en c=>b9 (H8 (dE ⟨U,trivial,Reach.refl ..,c⟩))
theorem ag2{t:gV}:hb X P C n ai t .bad:=fun J σ f bt af h A U s en c=>cD h
end
end
section
open PySem.SeqAt
section
variable {X:c0}{U bj:cu}{h aD:bP}{ai eR:cR}{en:e6}{J bt:Loc}{σ aM bS af:St}{P:c4}{C:Cl}{n:H}{A:ea}{s:bb}
noncomputable def Iu(X:c0)(n:H)(A:ea)(ai:cR)(en:e6)(U:cu)(s:bb)(f:ev)(bt:Loc)(af:St)(r:Result)(bc:bb):Prop:=match r with
 |.ok fl=>fO X n A ai en U s f bt af fl bc
 |.error e=>cameBackBy (bv X.prog X.w) A en b4 e bc
section
variable {bB:aQ}{vs:I V}{live:KK.St->au}{Inv:H->cu->bP->Prop}{j:H}{bc:bb}{aF l9:KK.St}
theorem bL.body(e5:lx X A bB vs live Inv)(a:bL X n A ai en Inv (bB::ownOf en) U s j bj bc J aF)(a5:bB∉ownOf en){cC:cu}{bC:bb}(r:Reach (ownOf en) bj bc cC bC)(c:dX X n A cC bC ai en bt l9):bL X n A ai en Inv (bB::ownOf en) U s j cC bC bt l9:=⟨a.r.trans (r.tG fun b ax=> .inl (.tail _ ax)),c,e5.move _ _ _ _ _ _ a.inv r.step a.c.env.td a5⟩
theorem bL.toEnd(a:bL X n A ai en Inv (bB::ownOf en) U s j bj bc J aF)(a5:s.heap.get? bB=aa):Reach (ownOf en) U s bj bc:=a.r.tG fun b ax=>by
 rcases dj.mp ax with e|ax
 ·exact .inr (e▸a5)
 ·exact .inl ax
theorem bL.last(e5:lx X A bB vs live Inv)(a:bL X n A ai en Inv (bB::ownOf en) U s j bj bc J aF)(a5:s.heap.get? bB=aa)(aZ:bB∉ownOf en){aD:bP}{tk:H}(am:∀b o,b≠bB->bc.heap.get? b=D o->aD.get? b=D o):
  fO X n A ai en U s .next J aF .next {bc with heap:=aD,toks:=tk}:=
 have o:=e5.own _ _ _ a.inv
 have r:=a.toEnd a5
 r.same.elim fun bu q=>q.elim fun tH e=>⟨bj,trivial,⟨⟨aD,tk,by rw[e]⟩,r.step.Dt a5 am⟩,a.c.room,a.c.store.kW o.1 o.2.1 o.2.2.1 am,a.c.env.kW o.2.1 aZ am⟩
end
theorem Zi{live:KK.St->au}{i:H}{b:Loc->KK.St->Rs}{v:V}{vs:I V}{aF:KK.St}{f:ev}{G:Prop}(h:h8 live i b (v::vs) J aF=D (f,bt,af))(k:live aF=ae->∀g d6 dW,b (J.set i (D v)) aF=D (g,d6,dW)->
  (g= .next\/g= .cont->h8 live i b vs d6 dW=D (f,bt,af))->(g= .brk->D (ev.next,d6,dW)=D (f,bt,af))->(∀u,g= .ret u->D (ev.ret u,d6,dW)=D (f,bt,af))->G):G:=by
 refine ey h fun aj h=>br h fun p ag h=> ?_
 obtain⟨g,d6,dW⟩:=p
 exact k aj g d6 dW ag (fun e=>by rcases e with e|e <;>subst e <;>exact h) (fun e=>by subst e;exact h) fun u e=>by subst e;exact h
theorem ag7{x:aK}{px pos:c3}{iter:bG}{body:I gV}{i:H}{e:E}{rng:au}{b:I S}(ok:ai.ok=ae)(aA:ai.slots.lookup x=D i)(q6:xP iter=ae)(hi:t9 X P C n ai iter rng e)(ax:lw X P C n ai body b):
  hb X P C n ai (.For (.Name x px) iter body [] pos) (.for i rng e b):= .intro fun J σ A U s en c y aM ag vs ah f bt af aN=>by
 refine wpAny_For (e7 (hi J σ y aM vs ag ah A U s en c) (fun ln a2 q=>e7 q (fun mB bC z=>oa fun G bV=> ?_) fun _ _ x=>x) fun _ _ x=>x) (Ed q6 en)
 obtain⟨bB,Inv,cC,hg,e5,AB,b3,mh,a5⟩:=z
 rw[hg]at bV
 have vo:bB∉ownOf en:=fun q=>(c.env.live bB q).elim fun o aR=>nomatch a5.symm.trans aR
 obtain⟨lv,nh⟩:∃lv:H->bb->Prop,∀k bc,lv k bc↔∃j bj aF o5,k=vs.length - j/\j<=vs.length/\bL X n A ai en Inv (bB::ownOf en) U s j bj bc o5 aF/\h8 (eQ aM y) i (fun J σ=>cQ P C b J σ) (vs.drop j) o5 aF=D (f,bt,af):=⟨_,fun _ _=>Hx⟩
 refine bV (H3 (R:=Iu X n A ai en U s f bt af) (codeAny_forLoop_any lv (fun k bc cg=>oa fun G bV=> ?_) vs.length ((nh _ _).mpr ⟨0,cC,aM,J,rfl,kL _,⟨b3.wide,c.next b3 mh,AB⟩,aN⟩)) fun r bc q=>q)
 obtain⟨j,bj,aF,o5,EJ,cg,a,go⟩:=(nh _ _).mp cg
 have out:∀ {g:ev} {d6 dW fl dH},D (g,d6,dW)=D (f,bt,af)->fO X n A ai en U s g d6 dW fl dH->fO X n A ai en U s f bt af fl dH:=fun{g d6 dW fl dH} e q=>j9 (ar:=fun f bt af=>fO X n A ai en U s f bt af fl dH) e q
 cases aH:vs.drop j with
 |nil=>
  have e:=Kk aH cg
  rw[aH]at go
  exact ey go fun aj go=>bV (e5.done bj _ bc _ _ aj a.c.store (e▸a.inv) fun aD tk am=>RX (out go (a.last e5 a5 vo am)))
 |cons v rest=>
  obtain⟨m7,dv,eM⟩:=Kj aH
  rw[aH]at go
  refine Zi go fun aj g d6 dW g1 Et Eo Ev=>bV (e5.item j bj aF bc v _ _ m7 aj a.c.store a.inv fun ln aD tk hw uT am=> ?_)
  have a1:=a.item e5 (.head _) vo uT am (tk:=tk)
  refine dE (CC (tD ok aA hw a1.c fun bC b3 ch=>ax.run g1 ch fun fR dH fl w gj fV=> ?_))
  have e0:=(a1.body e5 vo b3 ch).body e5 vo gj fV
  have more:g= .next\/g= .cont->∃m,m < k/\lv m dH:=fun e=>⟨vs.length - (j+1),EJ▸akw eM (rV j),(nh _ _).mpr ⟨j+1,fR,dW,d6,rfl,eM,e0,dv▸Et e⟩⟩
  exact w.cases (fun e=>more (.inl e)) (fun e=>more (.inr e)) (fun e=>out (Eo e) ⟨fR,trivial,e0.toEnd a5,fV⟩) fun u x e z=>out (Ev u e) ⟨fR,z,e0.toEnd a5,fV⟩
theorem aiX{ck:Loc->KK.St->aJ (au×KK.St)}{b:Loc->KK.St->Rs}{k:H}{aF:KK.St}{f:ev}{G:Prop}(h:l0 ck b (k+1) J aF=D (f,bt,af))(no:∀dW,ck J aF=D (aw,dW)->D (ev.next,J,dW)=D (f,bt,af)->G)
  (yes:∀dW,ck J aF=D (ae,dW)->∀g d6 hU,b J dW=D (g,d6,hU)->(g= .next\/g= .cont->l0 ck b k d6 hU=D (f,bt,af))->(g= .brk->D (ev.next,d6,hU)=D (f,bt,af))->(∀u,g= .ret u->D (ev.ret u,d6,hU)=D (f,bt,af))->G):G:=by
 refine br h fun p ag h=> ?_
 obtain⟨t,dW⟩:=p
 cases t with
 |false=>exact no dW ag h
 |true=>
  refine br h fun p ah h=> ?_
  obtain⟨g,d6,hU⟩:=p
  exact yes dW ag g d6 hU ah (fun e=>by rcases e with e|e <;>subst e <;>exact h) (fun e=>by subst e;exact h) fun u e=>by subst e;exact h
theorem ahg{rG:bG}{body:I gV}{pos:c3}{k:H}{eU:E}{b:I S}(aE:SB X P C n ai rG eU)(ax:lw X P C n ai body b):hb X P C n ai (.While rG body [] pos) (.while k eU b):= .intro fun J σ A U s en c f bt af h=>by
 obtain⟨lv,nh⟩:∃lv:H->bb->Prop,∀k bc,lv k bc↔∃bj aF o5,Reach (ownOf en) U s bj bc/\dX X n A bj bc ai en o5 aF/\
  l0 (fun J σ=>(aG P C eU J σ).bind fun(v,σ)=>(eh σ v).bind fun t=>D (t,σ)) (fun J σ=>cQ P C b J σ) k o5 aF=D (f,bt,af):=⟨_,fun _ _=>Hx⟩
 refine wpAny_While (H3 (R:=Iu X n A ai en U s f bt af) (codeAny_whileLoop lv (fun k bc cg=>oa fun G bV=> ?_) k ((nh _ _).mpr ⟨U,σ,J,Reach.refl ..,c,h⟩)) fun r bc q=>q)
 obtain⟨bj,aF,o5,OF,JM,go⟩:=(nh _ _).mp cg
 have out:∀ {g:ev} {d6 dW fl dH},D (g,d6,dW)=D (f,bt,af)->fO X n A ai en U s g d6 dW fl dH->fO X n A ai en U s f bt af fl dH:=fun{g d6 dW fl dH} e q=>j9 (ar:=fun f bt af=>fO X n A ai en U s f bt af fl dH) e q
 cases k with
 |zero=>exact cD go
 |succ k=>
  have rG:∀ {t dW},(aG P C eU o5 aF).bind (fun(v,σ)=>(eh σ v).bind fun t=>D (t,σ))=D (t,dW)->∀ {G:Prop},(∀v,aG P C eU o5 aF=D (v,dW)->eh dW v=D t->G)->G:=fun{t dW} e {G} k=>br e fun p ag e=>br e fun t ah e=>ff (ar:=fun t dW=>(∀v,aG P C eU o5 aF=D (v,dW)->eh dW v=D t->G)->G) e (fun k=>k p.1 ag ah) k
  refine aiX go (fun dW e h=>rG e fun v g1 g2=>bV (aE.run g1 g2 JM fun bm a2 cS bN=>RX (out h ⟨bm,trivial,OF.trans cS.wide,bN⟩))) fun dW e g d6 hU En Et Eo Ev=>rG e fun v g1 g2=>bV (aE.run g1 g2 JM fun bm a2 cS bN=>ax.run En bN fun fR dH fl w gj fV=> ?_)
  have Bx:=(OF.trans cS.wide).trans gj
  have more:g= .next\/g= .cont->∃m,m < k+1/\lv m dH:=fun e=>⟨k,rV _,(nh _ _).mpr ⟨fR,hU,d6,Bx,fV,Et e⟩⟩
  exact w.cases (fun e=>more (.inl e)) (fun e=>more (.inr e)) (fun e=>out (Eo e) ⟨fR,trivial,Bx,fV⟩) fun u x e z=>out (Ev u e) ⟨fR,z,Bx,fV⟩
theorem ahb{x y:aK}{i j:H}{hn gR bW pos zH:c3}{k:H}{f:bG}{as:I bG}{fp:I Keyword}{e:E}(ok:ai.ok=ae)(aA:ai.slots.lookup x=D i)(bo:ai.slots.lookup y=D j)(h0:bQ X P C n ai (.Call f as fp zH) e):
  hb X P C n ai (.Assign [.Tuple [.Name x hn,.Name y gR] k bW] (.Call f as fp zH) pos) (.mN i j e):= .intro fun J σ A U s en c a b aM ag=>Assign_Tuple (h0.run ag c fun bm a2 val r bN w=>aU.jD w fun t aS aP bH aH=>by
  refine wpAny_assign_Tuple bN.room.2.2 aP (by rw[aH.size];rfl) rfl fun aD am=> ?_
  obtain⟨amI,_,aT,B9,amK,_,aX,Ca,bZ⟩:=aH
  rw[aT,aX,show _=[]from bZ]
  have ic:∀a o,a2.heap.get? a=D o->aD.get? a=D o:=fun a o e=>am a o (hI (o4 e)) e
  have f3:Reach [] bm a2 bm {a2 with heap:=aD}:=Reach.keeps (tk:=a2.toks) ic
  have fA:=bN.next f3 (bN.store.keeps ic)
  exact alm (CC (tD ok aA (B9.step f3.step (by simp)) fA fun bC b3 ch=>alm (CC (tD ok bo ((Ca.step f3.step (by simp)).step b3.step fA.env.td) ch fun dH gj fV=>wpAny_assignInOrder_none ⟨bm,trivial,((r.wide.trans f3.wide).trans b3).trans gj,fV⟩)))))
end
end
section
open PySem.SeqAt
section
variable {prog:g9}{w:World}{A:ea}{s:bb}{K:Frag}{C x:aQ}{R:Result->bb->Prop}
theorem ad6{Gf Bf:db}{uu:aQ}{name:aK}{tk:kO}{v:al}{es:I g8}{n:H}(X:K.In s.heap)
  (bB:InstAt s.heap x Gf C (D Bf)) (hd:Gf.dict=D uu) (dL:s.heap.get? uu=D Bf) (ao:plainOver K C=ae) (aP:takerIn K C name=D aa) (bu:(clsIn K C).any (·.hasDict)=ae)
  (aj:(lookIn name Bf).isSome=ae) (cH:HZ name (tZ w.params name) (.str name s.toks) v Bf=dictOf es n) (hz:es.length<=1000)
  (h:R (.ok (.ret .none)) {s with heap:=s.heap.update uu (HZ name (tZ w.params name) (.str name s.toks) v),toks:=s.toks+1}):
  codeAny (bv prog w) A (.call (.builtin "object.__setattr__") ⟨[.ref x,.str name tk,v],[]⟩) R s:=by
 refine osa_open X bB ao aP fun b=> ?_
 obtain⟨DA,aE,gK⟩:=any_some bu
 have Sg:(s.heap.update uu (HZ name (tZ w.params name) (.str name s.toks) v)).get? uu=D (dictOf es n):=cH▸HV _ dL (by rw[cH];rfl)
 obtain⟨aA,mx,aZ, -⟩:=bB
 obtain⟨rr,amm,aml,amn⟩:=Gf
 dsimp only at mx hd
 subst mx hd
 refine b9 (dE (b9 (b9 (alv aA (b9 ((looks_clsIn X aE).here ?_))))))
 rw[gK]
 refine dE (a:=D uu) (b9 (dE (b9 ?_)))
 unfold nsSet
 refine b9 (b9 (wpAny_askSetting (dE (b9 (wpAny_mkText (b9 (alv dL ?_)))))))
 unfold lookIn at aj
 split at aj
 ·rename_i Kv ami q
  rw[q]
  dsimp only
  have c:(!Kv.any (·.key.isStr name) && Kv.any (·.refKey))=aw:=by
   rw[<-Hr,<-Hr]
   split at aj
   ·rename_i en he
    rw[mR.mpr ⟨en,Rf he,Q5 he⟩];rfl
   ·split at aj
    ·cases aj
    ·rename_i z;rw[ajI]at z;rw[z,l2]
  rw[aRefKeyMayBeTheName_at,c]
  refine wpAny_updatePart dL ?_
  refine b9 (wpAny_lookBehind Sg (pastItsLine_dict (by rw[List.size_toArray,sizeLine_eq];omega)) ?_)
  exact dE h
 ·cases aj
end
section
variable {X:c0}{U bj:cu}{h aD:bP}{ai eR:cR}{en:e6}{J bt:Loc}{σ aM bS af:St}{P:c4}{C:Cl}{n:H}{A:ea}{s:bb}
theorem hK.length{fs:I (H×V)}{es:I g8}(c:hK X U h fs es):es.length=fs.length:=by
 induction c with
 |nil=>rfl
 |cons _ _ _ bh=>exact bs Rn bh
theorem Ot{e:g8}{r:I g8}{x:aK}{aY:O}{k v:al}(q:e.key.isStr x=ae):putL x aY k v (e::r)= {e with val:=v}::r:=by unfold putL;rw[a7 q]
theorem Ou{e:g8}{r:I g8}{x:aK}{aY:O}{k v:al}(q:e.key.isStr x=aw):putL x aY k v (e::r)=e::putL x aY k v r:=by
 conv=>lhs;unfold putL
 rw[bz (by rw[q];exact v1)]
theorem hK.put{a:H}{v:V}{val:al}{aY:O}{t:kO}(aI:a < 200)(w:aU U h v val){fs:I (H×V)}{es:I g8}(c:hK X U h fs es):(∀x∈fs,x.1 < 200)->hK X U h (jU fs a v) (putL (X.nm a) aY (.str (X.nm a) t) val es):=by
 induction c with
 |nil=>exact fun _=> .cons ⟨t,rfl⟩ w .nil
 |@cons b u r e l k x c bh=>
  intro ax
  obtain⟨tk,k⟩:=k
  unfold jU
  by_cases z:b=a
  ·rw[a7 z,Ot (by rw[xt k,z];exact n2 _)]
   exact .cons ⟨tk,k⟩ w c
  ·rw[bz z,Ou ((xt k).trans (n1.mpr fun q=>z (X.FR b a (ax _ (.head _)) aI q)))]
   exact .cons ⟨tk,k⟩ x (bh fun y bo=>ax y (.tail _ bo))
theorem YV{Q:H×V->Prop}{a:H}{v:V}(q:Q (a,v))(am:∀u,Q (a,u)->Q (a,v)){fs:I (H×V)}(h:∀x∈fs,Q x):∀x∈jU fs a v,Q x:=by
 induction fs with
 |nil=>exact fun x m=>dt.mp m▸q
 |cons y r bh=>
  intro x m
  unfold jU at m
  by_cases z:y.1=a
  ·rw[a7 z]at m
   cases m with
   |head=>exact z▸q
   |tail _ m=>exact h x (.tail _ m)
  ·rw[bz z]at m
   cases m with
   |head=>exact h _ (.head _)
   |tail _ m=>exact bh (fun x aA=>h x (.tail _ aA)) x m
theorem Zv(name:aK){es:I g8}(h:es.any (·.refKey)=aw):(getL name es).isSome=ae:=by
 unfold getL
 split
 ·rfl
 ·rw[h];rfl
theorem aeF(name:aK)(aY:O)(k v:al)(es:I g8):(putL name aY k v es).length<=es.length+1:=by
 induction es with
 |nil=>exact dm _
 |cons e r bh=>
  cases q:e.key.isStr name with
  |true=>rw[Ot q];exact eJ _
  |false=>rw[Ou q];exact yJ bh
theorem O8{i:H}{c:H}{fs:I (H×V)}{a:H}{v:V}{val:al}{p:aQ×aQ}{Q:qo->bb->Prop}(kT:pd X P)(aE:σ[i]?=D (.inst c fs))(pG:(P.fld c a && decide (fs.length < 100))=ae)(R:bX X U σ s.heap)(ao:U[i]?=D p)(hw:aU U s.heap v val)
  (q:∀aD tk,bX X U (σ.set i (.inst c (jU fs a v))) aD->Step U U [] s.heap aD->Q () {s with heap:=aD,toks:=tk}):
  bi (bv X.prog X.w) A (setAttr (.ref p.1) (X.nm a) val) Q b4 s:=by
 obtain⟨bH,aj⟩:=ei.mp pG
 obtain⟨ag,es,k,ah,w1,KO⟩:=R.cells _ _ _ aE ao
 obtain⟨aI,uG⟩:=kT.fld c a bH
 obtain⟨f1,f2,kp,f4,z2,D6⟩:=D8 uG
 have bB:InstAt s.heap p.1 ⟨.ref (X.ca c),D p.2,.plain, #[]⟩ (X.ca c) (D (dictOf es k)):=⟨ag,rfl,rfl,ah⟩
 obtain⟨g,bR⟩:∃g,g=HZ (X.nm a) (tZ X.w.params (X.nm a)) (.str (X.nm a) (s.toks+1)) val:=⟨_,rfl⟩
 have jq:g (dictOf es k)=dictOf (putL (X.nm a) (tZ X.w.params (X.nm a)) (.str (X.nm a) (s.toks+1)) val es) (putN (X.nm a) es k):=bR▸putName_dict ..
 have hz:(putL (X.nm a) (tZ X.w.params (X.nm a)) (.str (X.nm a) (s.toks+1)) val es).length<=1000:=cp (aeF ..) (cp (Nat.succ_le_of_lt (w1.length.symm▸gy aj:es.length < 100)) (by decide))
 refine set_plain R.kw bB f4 (ad6 (s:= {s with toks:=s.toks+1}) R.kw bB rfl ah z2 D6 f2 (by rw[RJ];exact Zv _ w1.noRef) (bR▸jq) hz ?_)
 rw[<-bR]
 have EW:=Cv s.heap p.2 g
 have aX:(s.heap.update p.2 g).get? p.2=D (dictOf (putL (X.nm a) (tZ X.w.params (X.nm a)) (.str (X.nm a) (s.toks+1)) val es) (putN (X.nm a) es k)):=jq▸HV g ah (by rw[jq];rfl)
 have cc:p.1≠p.2:=fun e=>by rw[e,ah]at ag;cases ag
 have S:Step U U [] s.heap (s.heap.update p.2 g):=Step.F4 EW ⟨_,aX⟩ (.inl ⟨p,im ao,.inr rfl⟩)
 have cr:iP X U (s.heap.update p.2 g) (.inst c (jU fs a v)) p:=⟨(EW.2 _ cc).trans ag,_,_,aX,(hK.put aI hw w1 fun x aA=>(KO x aA).1).d8 S.d8 (by simp),YV (Q:=fun x=>x.1 < 200/\pz X.K (X.ca c) (X.nm x.1)=ae) ⟨aI,uG⟩ (fun _ _=>⟨aI,uG⟩) KO⟩
 exact q _ _ (R.put ao (.inr rfl) EW cr).1 S
theorem fO.put{i:H}{c:Cell}{bm:cu}{a2:bb}{aD:bP}{tk:H}(r:Reach [] U s bm a2)(WD:dX X n A bm a2 ai en J σ)(R:bX X bm (σ.set i c) aD)(S:Step bm bm [] a2.heap aD):fO X n A ai en U s .next J (σ.set i c) .next {a2 with heap:=aD,toks:=tk}:=
 have e2:Reach [] bm a2 bm {a2 with heap:=aD,toks:=tk}:=⟨⟨aD,tk,rfl⟩,S⟩
 ⟨bm,trivial,(r.trans e2).wide,WD.next e2 R⟩
theorem ahc{o value:bG}{attr:aK}{bW pos:c3}{hh e:E}{a:H}(kT:pd X P)(aE:xM value=ae)(aI:X.nm a=attr)(h0:bQ X P C n ai o hh)(aH:bQ X P C n ai value e):hb X P C n ai (.Assign [.Attribute o attr bW] value pos) (.cT hh a e):= .intro fun J σ A U s en c v aM ag i bS ah cl fs hA bH=>plainObj_wpAny_Assign_Attribute (aH.run ag c fun bm a2 val cS bN vT=>h0.run ah bN fun cC bC cO b3 ch qa=>aI▸aU.objE qa fun p ao=>O8 kT hA bH ch.store ao (vT.step b3.step (by simp)) fun aD tk R S=> .put (cS.trans b3) ch R S) (BV aE _ _ _)
theorem aa9{p:mW}{op:H2}{u v:V}{z:O}{a b:al}{Q:al->bb->Prop}(aR:(p,op)=(.add,.Add)\/(p,op)=(.sub,.Sub))(hz:hM p u v=D (.int z))(B9:aU U s.heap u a)(Ca:aU U s.heap v b)(q:∀t tk,Q (.int z t) {s with toks:=tk}):
  bi (bv X.prog X.w) A (inplaceOp op a b) Q b4 s:=by
 have fin:∀ {y:O} {t tk:H},D (V.int y)=D (V.int z)->Q (.int y t) {s with toks:=tk}:=fun e=>V.int.inj (bD e)▸q _ _
 rcases aR with e|e <;>cases e
 ·cases u with
  |int i=>exact br hz fun j aT e=>aU.gP B9 fun t=>aU.gP (Ca.to (V.kx aT)) fun eF=>PySem.P.iadd_int (fin e)
  |ab _=>exact br hz fun j aT e=>V.noConfusion (bD (nq e).2)
  |lst _=>exact br hz fun j aT e=>V.noConfusion (bD (nq e).2)
  |none|bool _|str _|obj _=>exact cD hz
 ·exact ov (P:=fun a b=>bi (bv X.prog X.w) A (inplaceOp .Sub a b) Q b4 s) hz B9 Ca fun i j t u e=>PySem.P.isub_int (fin e)
theorem ag1{o value:bG}{attr:aK}{bW pos:c3}{hh e:E}{a:H}{p:mW}{op:H2}(kT:pd X P)(aR:(p,op)=(.add,.Add)\/(p,op)=(.sub,.Sub))(aI:X.nm a=attr)(h0:bQ X P C n ai o hh)(aH:bQ X P C n ai value e):hb X P C n ai (.AugAssign (.Attribute o attr bW) op value pos) (.n7 hh a p e):= .intro fun J σ A U s en c i aM ag cl fs hA u b1 v bS ef z c7 fA K1 ZY bH=>by
 rw[<-aI]
 exact wpAny_AugAssign_AttributeAny (h0.run ag c fun bm a2 cO cS bN vT=>Ji hA b1 bN.store vT fun pU tk ai6=>aH.run ef (bN.next (Reach.toks (tk:=tk)) bN.store) fun cC bC val b3 ch qa=>aa9 aR c7 (aU.step (h:=a2.heap) b3.step (by simp) ai6) qa fun t G7=>aU.objE vT fun fF ao=>O8 (s:= {bC with toks:=G7}) kT ZY bH ch.store (b3.step.get ao) (show aU cC bC.heap (.int z) (.int z t)from⟨t,rfl⟩) fun aD ah6 R S=> .put (a2:=bC) ((cS.trans Reach.toks).trans b3) ch R S)
end
end
section
open PySem.SeqAt
section
variable {K:Type}[kK K]
noncomputable def lf(k:K)(x:al):I (K×al)->I (K×al)
 |[]=> [(k,x)]
 |(a,u)::r=>if a=k then(a,x)::r else(a,u)::lf k x r
theorem GX(k:K)(x:al):∀b5:I (K×al),(b5.map (·.1)).Nodup->stored b5 k x=lf k x b5
 |[],_=>rfl
 |(a,u)::r,cj=>by
  rw[eI,hH]at cj
  have bh:=GX k x r cj.2
  unfold stored at bh ⊢
  by_cases e:a=k
  ·subst e
   have bg:r.map (fun b5=>if b5.1=a then(b5.1,x)else b5)=r:=by
    conv=>rhs;rw[<-aj6 r]
    refine aj4 fun y bo=> ?_
    have:y.1≠a:=fun q=>cj.1 (q▸dk.mpr ⟨y,bo,rfl⟩)
    simp[this]
   simp[lf,bg]
  ·simp only[Ck,e,R2,Ch,lf,kR,eI,List.cons_append]
   rw[<-bh]
   split <;>rfl
noncomputable def vE(k:K)(a:aQ)(x:al):I (K×aQ×al)->I (K×aQ×al)
 |[]=> [(k,a,x)]
 |y::r=>if y.1=k then(y.1,y.2.1,x)::r else y::vE k a x r
theorem Pw(k:K)(a:aQ)(x:al):∀b5:I (K×aQ×al),(b5.map (·.1)).Nodup->storedH b5 k a x=vE k a x b5
 |[],_=>rfl
 |y::r,cj=>by
  rw[eI,hH]at cj
  have bh:=Pw k a x r cj.2
  by_cases e:y.1=k
  ·have ag:atKey (y::r) k=D y.2:=by simp[atKey,v5,e]
   have bg:r.map (putAt k x)=r:=map_putAt_of_not_mem r k x (e▸cj.1)
   rw[storedH_old ag,eI,bg]
   simp[vE,putAt,e]
  ·have ag:atKey (y::r) k=atKey r k:=by simp[atKey,v5,e]
   unfold storedH at bh ⊢
   rw[ag]
   simp only[vE,e,kR]
   rw[<-bh]
   split
   ·simp[putAt,e]
   ·rfl
noncomputable def ur(k:K):I (K×aQ×al)->I (K×aQ×al)
 |[]=> []
 |y::r=>if y.1=k then r else y::ur k r
theorem Ka{k:K}:∀ {b5:I (K×aQ×al)} {j:H} {p:aQ×al},(b5.map (·.1)).Nodup->b5[j]?=D (k,p)->ur k b5=b5.eraseIdx j
 |[],j,p,_,e=>by simp at e
 |y::r,0,p,cj,e=>by simp at e;subst e;simp[ur]
 |y::r,j+1,p,cj,e=>by
  rw[eI,hH]at cj
  simp only[Q6]at e
  have:y.1≠k:=fun q=>cj.1 (q▸dk.mpr ⟨_,im e,rfl⟩)
  simp[ur,this,Ka cj.2 e]
end
theorem Nc{α dg:Type}(f:α->dg):∀(l:I α) (j:H),(l.map f).eraseIdx j=(l.eraseIdx j).map f
 |[],_=>by simp
 |x::l,0=>by simp
 |x::l,j+1=>by simp[Nc f l j]
section
variable {prog:g9}{w:World}{A:ea}{E:al->bb->Prop}{s:bb}{K:Type}[kK K]{knd:Cw prog w K}
theorem ahO{d a:aQ}{xs:I (K×aQ×al)}{k:K}{Q:aJ g8->bb->Prop}(cd:knd.room A)(uP:knd.is s.heap k a)(hm:s.heap.DictOfH knd d xs){j:H}{p:aQ×al}(cg:xs[j]?=D (k,p))
  (aaI:∀e aD,aD.DictOfH knd d (xs.eraseIdx j)->wb d s.heap aD->Q (D e) {s with heap:=aD,toks:=s.toks+knd.draws k})
  (lF:xs.length<=kP):
  bi (bv prog w) A (Rq d (.ref a)) Q E s:=by
 obtain⟨o,es,ep,aR,aE,hd,he,LG,aZ⟩:=hm
 unfold Rq
 try with_reducible refine yQ ?_
 refine b9 (knd.pyHash cd uP ?_)
 refine b9 (wpAny_dictFind_heap (s:= {s with toks:=s.toks+knd.draws k}) cd uP aR hd he LG aZ (fun EQ=>absurd cg (EQ j p)) fun AH fF aad=> ?_)
 obtain rfl:AH=j:=idxH_unique aZ aad cg
 refine b9 (wpAny_dictEntries (s:= {s with toks:=s.toks+knd.draws k}) aR hd ?_)
 rw[entry_at he AH,cg]
 refine b9 (wpAny_updateDictKeys (hz:=by have e:=size_of_entries he;omega) (s:= {s with toks:=s.toks+knd.draws k}) aR hd (dE (aaI _ _ ⟨_,_,ep+1,HV _ aR (Obj.isFreed_of_dict (akX hd _)),
   aE.mapDictKeys _,akX hd _, ?_,fun x aA=>knd.keeps (LG x (List.mem_of_mem_eraseIdx aA)) aR hd (Cv ..), ?_⟩ (Cv ..))))
 ·have:(es.eraseIdxIfInBounds AH).toList=es.toList.eraseIdx AH:=by obtain⟨l⟩:=es;simp
  rw[this,he,Nc]
 ·exact ajP ((List.eraseIdx_sublist ..).map _) aZ
theorem WN{d a:aQ}{xs:I (K×aQ×al)}{k:K}{Q:qo->bb->Prop}(cd:knd.room A.in1)(uP:knd.is s.heap k a)(hm:s.heap.DictOfH knd d xs){j:H}{p:aQ×al}(cg:xs[j]?=D (k,p))
  (sx:∀aD,aD.DictOfH knd d (xs.eraseIdx j)->wb d s.heap aD->Q () {s with heap:=aD,toks:=s.toks+knd.draws k}) (lF:xs.length<=kP):
  bi (bv prog w) A (delItem (.ref d) (.ref a)) Q E s:=by
 refine alo hm.typeIs (by decide) akP (t3 akP hm.typeIs PySem.F.entry_dict_delitem ?_ (PySem.F.args_dict_delitem_2 _ _))
 unfold HQ.«dict.__delitem__»
 refine b9 ?_
 unfold amW
 refine b9 (wpAny_notOrdered_dict hm.typeIs ?_)
 show bi _ _ (pure (RG d,RG a)) _ _ s
 refine dE ?_
 show bi _ _ (Rq d (.ref a) >>=_) _ _ s
 refine b9 (ahO cd uP hm cg (fun e aD ag ah=> ?_) lF)
 refine b9 (wpAny_letGo (dE ⟨.none,rfl,sx aD ag ah⟩))
end
noncomputable def O5(start stop step:O)(i:H):au:=
 if step >0 then start<=i && i < stop && (i - start) % step==0
 else stop < i && i<=start && (start - i) % (-step)==0
theorem ajm{α:Type}{p:H->au}{m:H}(l:I α):∀(jw:H),(∀k,jw<=k->k < jw+l.length->p k=decide (m<=k))->(l.zipIdx jw).filterMap (fun(x:α×H)=>match x with|(x,k)=>if p k=ae then aa else D x)=l.take (m - jw):=by
 induction l with
 |nil=>exact fun jw _=>List.take_nil.symm
 |cons x l bh=>
  intro jw h
  have h0:=h jw (dm _) (akl (akB _))
  have bh:=bh (jw+1) fun k ag ah=>h k (Nat.le_of_succ_le ag) (akm ah (Nat.succ_add_eq_add_succ ..))
  rw[akd,List.filterMap_cons]
  dsimp only
  by_cases q:m<=jw
  ·rw[h0,a7 (cW q),bh,Rm q,Rm (Cs q)];rfl
  ·rw[h0,bz (by rw[ek q];exact v1),bh]
   have e:m - jw=(m - (jw+1))+1:=(Nat.succ_pred_eq_of_pos (Nat.sub_pos_of_lt (o1.mp q))).symm
   rw[e,List.take_succ_cons]
theorem ago{i:O}{n k:H}(h0:0<=i)(am:k < n):O5 (sliceBounds (D i) aa aa n).1 (sliceBounds (D i) aa aa n).2.1 (sliceBounds (D i) aa aa n).2.2 k=decide (i.toNat<=k):=by
 rw[kms_bounds]
 have e:kms_lo (D i) n=min i.toNat n:=bz (Ci.mpr h0)
 show(if(1:O) >0 then(decide (((kms_lo (D i) n:H):O)<=(k:O)) && decide ((k:O) < (n:O)) && ((k:O) - ((kms_lo (D i) n:H):O)) % 1==0)else _)=_
 rw[a7 (by decide),Int.emod_one,cW (fv.mpr am),v0,e,n2,v0]
 exact kQ.mpr (oW.trans ⟨fun q=>HI fun l=>absurd q (o1.mpr (Nat.lt_min.mpr ⟨l,am⟩)),fun q=>cp (Nat.min_le_left ..) q⟩)
section
variable {prog:g9}{w:World}{A:ea}{E:al->bb->Prop}{s:bb}
theorem WO{l ai:aQ}{dd:dD al}{n:H}{il:al}{i:O}{Q:qo->bb->Prop}(aR:s.heap.get? l=D {cls:= .type "list",data:= .seq dd n})
  (aY:s.heap.IsSliceOf ai il .none .none) (gv:l7 il (D i)) (h0:0<=i) (lF:dd.size<=kP)
  (h:∀f:dD al->dD al,f dd=(dd.toList.take i.toNat).toArray->Q () {s with heap:=s.heap.update l (qm f)}):
  bi (bv prog w) A (delItem (.ref l) (.ref ai)) Q E s:=by
 obtain⟨os,oq,Am,q4⟩:=id aY
 have Ah:s.TypeIs (.ref ai) "slice" :=⟨os,oq,Am⟩
 have aj:s.TypeIs (.ref l) "list" :=⟨_,aR,rfl⟩
 refine alo aj (by decide) akQ (t3 akQ aj PySem.F.entry_list_delitem ?_ (PySem.F.args_list_delitem_2 _ _))
 show bi _ _ (Rr (.ref ai) >>=_) _ _ s
 refine b9 ?_
 unfold Rr
 refine b9 (H7 Ah slice_no_index ?_)
 simp only[Option.isNone_none,we]
 refine dE ?_
 show bi _ _ (typeOf (.ref ai) >>=_) _ _ s
 refine b9 (alD Ah ?_)
 rw[bz (by decide)]
 rw[listSliceParts_eq]
 refine b9 (b9 (yP oq q4 (x:= .none) rfl (b9 (RY .none ?_))))
 rw[bz (show¬((rawPart aa==rawInt 0)=ae)from v1)]
 refine b9 (yP oq q4 (x:=il) rfl (b9 (RY gv ?_)))
 refine b9 (yP oq q4 (x:= .none) rfl (b9 (RY .none (dE ?_))))
 refine b9 (listItems_at aR rfl ?_)
 refine b9 (wpAny_of_eq (sliceIndices_raw (D i) aa aa dd.size (by simp)) ?_)
 refine b9 (wpAny_rule ?_)
 have aX:=bs List.toArray (ajm (p:=O5 _ _ _) dd.toList 0 fun k _ am=>ago h0 (akm am ((g7 _).trans Cg)))
 refine b9 (listUpdate_at aR rfl ?_ lF (cp (gb (bs Array.size aX)) (cp (List.length_take_le' ..) (Cs lF))))
 exact b9 (wpAny_letGo (dE ⟨.none,rfl,h _ aX⟩))
end
end
section
open PySem.SeqAt
section
variable {X:c0}{U bj:cu}{h aD:bP}{ai eR:cR}{en:e6}{J bt:Loc}{σ aM bS af:St}{P:c4}{C:Cl}{n:H}{A:ea}{s:bb}
theorem iQ.set{K:Type}[kK K]{mk:K->V}(inj:∀ {a b},mk a=mk b->a=b){j:K}{v:V}{x:al}(w:aU U h v x){r:I (V×V)}{l:I (K×al)}(c:iQ mk U h r l):iQ mk U h (dI r (mk j) v) (lf j x l):=by
 induction c with
 |nil=>exact .cons w .nil
 |@cons i u y r l z c bh=>
  unfold dI lf
  by_cases q:i=j
  ·rw[a7 q,a7 (bs mk q)];exact .cons w c
  ·rw[bz q,bz fun e=>q (inj e)];exact .cons z bh
theorem gr.set{j v:V}{a:aQ}{x:al}(aes:j.pure=ae)(ai1:aU U h j (.ref a))(w:aU U h v x){r:I (V×V)}{l:I (V×aQ×al)}(c:gr U h r l):gr U h (dI r j v) (vE j a x l):=by
 induction c with
 |nil=>exact .cons aes ai1 w .nil
 |@cons k b u y r l p q z c bh=>
  unfold dI vE
  by_cases t:k=j
  ·rw[a7 t,a7 t];exact .cons p q w c
  ·rw[bz t,bz t];exact .cons p q z bh
theorem gr.del{j:V}{r:I (V×V)}{l:I (V×aQ×al)}(c:gr U h r l):gr U h (lH r j) (ur j l):=by
 induction c with
 |nil=>exact .nil
 |@cons k b u y r l p q z c bh=>
  unfold lH ur
  by_cases t:k=j
  ·rw[a7 t,a7 t];exact c
  ·rw[bz t,bz t];exact .cons p q z bh
theorem gr.len{r:I (V×V)}{l:I (V×aQ×al)}(c:gr U h r l):l.length=r.length:=by
 induction c with
 |nil=>rfl
 |cons _ _ _ _ bh=>exact bs Rn bh
theorem acb{prog:g9}{w:World}{E:al->bb->Prop}{l:aQ}{dd:dD al}{m:H}{k:O}{t:kO}{v:al}{Q:qo->bb->Prop}(aR:s.heap.get? l=D {cls:= .type "list",data:= .seq dd m})
  (h0:0<=k) (LC:k < 2 ^ 63) (aZ:k < dd.size)
  (sx:Q () {s with heap:=s.heap.update l (qm (·.setIfInBounds k.toNat v))}):
  bi (bv prog w) A (setItem (.ref l) (.int k t) v) Q E s:=by
 have aj:s.TypeIs (.ref l) "list" :=⟨_,aR,rfl⟩
 unfold setItem
 try with_reducible refine yQ ?_
 refine b9 (aly aj (by decide) ?_)
 refine b9 (aln (name:=hS "__setitem__") aj ale
  (t3 ale aj entry_list_setitem ?_ (args_list_setitem _ _ _)))
 show bi _ _ (Rr (.int k t) >>=_) _ _ s
 refine b9 (wpAny_listSubscript_int (fitsIndex_of h0 LC) ?_)
 clear LC
 obtain⟨j,rfl⟩:=QT h0
 have cg:j < dd.size:=by omega
 have pL:dd[j]?=D dd[j]:=Hs cg
 show bi _ _ ((seqItemAt l j >>=fun r=>pure (r.map (j, ·))) >>=_) _ _ s
 refine b9 (b9 (wpAny_seqItemAt aR rfl (dE ?_)))
 rw[pL]
 show bi _ _ (setSeqItemAt l j v >>=_) _ _ s
 refine b9 (wpAny_setSeqItemAt aR rfl ?_)
 first
  |exact b9 (dE (dE ⟨.none,rfl,dE sx⟩))
  |exact dE ⟨.none,rfl,dE sx⟩
theorem FV{K:Type}[kK K]{prog:g9}{w:World}{knd:KeyKind prog w K}{a:aQ}{b5:I (K×al)}(d:h.DictOf knd a b5):(b5.map (·.1)).Nodup:=by obtain⟨_,_,_,_,_,_,_,_,q⟩:=d;exact q
theorem NH{K:Type}[kK K]{prog:g9}{w:World}{knd:Cw prog w K}{a:aQ}{b5:I (K×aQ×al)}(d:h.DictOfH knd a b5):(b5.map (·.1)).Nodup:=by obtain⟨_,_,_,_,_,_,_,_,q⟩:=d;exact q
theorem A6{p:aQ×aQ}{j:H}(ao:U[j]?=D p)(aY:wb p.1 h aD):Move U U [] h aD:=⟨⟨[],by simp,by simp⟩,fun a o e bH _=>(aY.2 a fun q=>bH ⟨p,im ao,.inl q⟩).trans e⟩
theorem GQ{a b:H}(e:a=b)(h:b < a4):a<=kP:=e▸Bz h
section
variable {j:H}{k v:V}{b5 val:al}{p:aQ×aQ}{Q:qo->bb->Prop}
theorem aeD{aW:gp}{kvs:I (V×V)}(dw:A.units+16 < cLine)(aE:σ[j]?=D (.dict aW kvs))(nj:(aW.ok k && decide (kvs.length < a4))=ae)(R:bX X U σ s.heap)(ao:U[j]?=D p)(i1:aU U s.heap k b5)(nV:aU U s.heap v val)
  (q:∀aD tk,bX X U (σ.set j (.dict aW (dI kvs k v))) aD->Step U U [] s.heap aD->Q () {s with heap:=aD,toks:=tk}):bi (bv X.prog X.w) A (setItem (.ref p.1) b5 val) Q b4 s:=by
 obtain⟨am,aj⟩:=ei.mp nj
 have aj:=gy aj
 have cr:=R.cells _ _ _ aE ao
 have fin:∀ {aD:bP} {tk:H},wb p.1 s.heap aD->iP X U aD (.dict aW (dI kvs k v)) p->Q () {s with heap:=aD,toks:=tk}:=fun aY cr=>let z:=R.put ao (.inl rfl) aY cr;q _ _ z.1 z.2
 cases aW with
 |i=>
  obtain⟨z,rfl⟩:=AA am
  obtain⟨hd,l,dO,cM⟩:=cr
  exact aU.gP i1 fun t=>alz (knd:=intKind X.prog X.w) (k:=z) sL dO (fun aD gK aY=>fin aY ⟨hd,_,GX _ _ _ (FV dO)▸gK,(iQ.set V.int.inj nV cM).d8 (A6 ao aY) (by simp)⟩) (GQ cM.len aj)
 |s=>
  obtain⟨z,rfl⟩:=BQ am
  obtain⟨hd,l,dO,cM⟩:=cr
  exact aU.mO i1 fun t=>alz (knd:=strKind X.prog X.w) (k:=z) (yO X.prog X.w z t) dO (fun aD gK aY=>fin aY ⟨hd,_,GX _ _ _ (FV dO)▸gK,(iQ.set V.str.inj nV cM).d8 (A6 ao aY) (by simp)⟩) (GQ cM.len aj)
 |t=>
  obtain⟨ag,ah⟩:=ei.mp am
  obtain⟨hd,l,dO,cM⟩:=cr
  obtain⟨ad,rfl⟩:=x0 ag i1
  exact wpAny_setItem_heap (knd:=vL X.prog X.w) (rL dw) (i1.pr 5 ah) dO (fun aD gK aY=>fin aY ⟨hd,_,Pw _ _ _ _ (NH dO)▸gK,(gr.set ah i1 nV cM).d8 (A6 ao aY) (by simp)⟩) (GQ cM.len aj)
theorem aeE{vs:I V}{z:O}(aE:σ[j]?=D (.list vs))(hz:0<=z/\z < vs.length/\vs.length<=a4)(R:bX X U σ s.heap)(ao:U[j]?=D p)(i1:aU U s.heap (.int z) b5)(nV:aU U s.heap v val)
  (q:∀aD tk,bX X U (σ.set j (.list (vs.set z.toNat v))) aD->Step U U [] s.heap aD->Q () {s with heap:=aD,toks:=tk}):bi (bv X.prog X.w) A (setItem (.ref p.1) b5 val) Q b4 s:=listAt R aE ao fun aS n hd aj aH=>aU.gP i1 fun t=>acb aj hz.1 (v3 hz.2.1 (va hz.2.2)) (aH.size▸hz.2.1)
  (let y:=Bu (us:=vs.set z.toNat v) (f:=fun xs=>xs.setIfInBounds z.toNat val) (jts:=aS.setIfInBounds z.toNat val) R ao aj hd rfl (by rw[Array.toList_setIfInBounds];exact aH.set nV);q _ s.toks y.1 y.2)
theorem Up{l:I (V×aQ×al)}(h:(atKey l k).isSome=ae):∃(i:H) (q:aQ×al),l[i]?=D (k,q):=by
 unfold atKey at h
 rw[Rp]at h
 obtain⟨y,bo⟩:=HN.mp h
 obtain⟨i,hi⟩:=yE.mp (Rf bo)
 have e:y.1=k:=gy (Q5 (p:=fun x:V×aQ×al=>decide (x.1=k)) bo)
 exact⟨i,y.2,by rw[hi,<-e]⟩
theorem WM{kvs:I (V×V)}(dw:A.units+16 < cLine)(aE:σ[j]?=D (.dict .t kvs))(nj:(gp.t.ok k && mE kvs k && decide (kvs.length<=a4))=ae)(R:bX X U σ s.heap)(ao:U[j]?=D p)(i1:aU U s.heap k b5)
  (q:∀aD tk,bX X U (σ.set j (.dict .t (lH kvs k))) aD->Step U U [] s.heap aD->Q () {s with heap:=aD,toks:=tk}):bi (bv X.prog X.w) A (delItem (.ref p.1) b5) Q b4 s:=by
 obtain⟨am,aj⟩:=ei.mp nj
 obtain⟨am,bu⟩:=ei.mp am
 obtain⟨ag,ah⟩:=ei.mp am
 obtain⟨hd,l,dO,cM⟩:=R.cells _ _ _ aE ao
 obtain⟨ad,rfl⟩:=x0 ag i1
 obtain⟨i,y,hi⟩:=Up ((MI cM).trans bu)
 refine WN (knd:=vL X.prog X.w) (rL dw) (i1.pr 5 ah) dO hi (fun aD gK aY=> ?_) (cp (gb cM.len) (BA (gy aj)))
 have cr:iP X U aD (.dict .t (lH kvs k)) p:=⟨hd,_,Ka (NH dO) hi▸gK,cM.del.d8 (A6 ao aY) (by simp)⟩
 have z:=R.put ao (.inl rfl) aY cr
 exact q _ _ z.1 z.2
end
theorem ahe{o i value:bG}{bW pos:c3}{hh hx e:E}(aE:xM value=ae)(h0:bQ X P C n ai o hh)(hi:bQ X P C n ai i hx)(aH:bQ X P C n ai value e):hb X P C n ai (.Assign [.Subscript o i bW] value pos) (.fG hh hx e):= .intro fun J σ A U s en c v aM ag j bS ah k fT aN=>by
 have go:∀ {fA:Cell},(∀fR dH val rf p,fR[j]?=D p->dX X n A fR dH ai en J fT->aU fR dH.heap k rf->aU fR dH.heap v val->(∀aD tk,bX X fR (fT.set j fA) aD->Step fR fR [] dH.heap aD->fO X n A ai en U s .next J (fT.set j fA) .next {dH with heap:=aD,toks:=tk})->
   bi (bv X.prog X.w) A (setItem (.ref p.1) rf val) (fun _ bc=>fO X n A ai en U s .next J (fT.set j fA) .next bc) b4 dH)->bi (bv X.prog X.w) A (exec (.Assign [.Subscript o i bW] value pos) en) (fO X n A ai en U s .next J (fT.set j fA)) b4 s:=fun K=>wpAny_Assign_Subscript (aH.run ag c fun bm a2 val cS bN vT=>h0.run ah bN fun cC bC cO b3 ch qa=>hi.run aN ch fun fR dH rf gj fV yt=>aU.objE (qa.step gj.step (by simp)) fun p ao=>K fR dH val rf p ao fV yt ((vT.step b3.step (by simp)).step gj.step (by simp)) fun aD tk R S=> .put ((cS.trans b3).trans gj) fV R S) (BV aE _ _ _)
 exact⟨fun aW kvs hA am=>go fun fR dH val rf p ao fV i1 nV q=>aeD (lc fV.room) hA am fV.store ao i1 nV q,
  fun vs z hA gB hz=>go fun fR dH val rf p ao fV i1 nV q=>aeE hA hz fV.store ao (i1.to gB) nV q⟩
theorem ag4{o i:bG}{bW pos:c3}{hh hx:E}(h0:bQ X P C n ai o hh)(hi:bQ X P C n ai i hx):hb X P C n ai (.Delete [.Subscript o i bW] pos) (.mo hh hx):= .intro fun J σ A U s en c j bS ah k fT aN kvs hA am=>alh (alp (akE (h0.run ah c fun cC bC cO b3 ch qa=>hi.run aN ch fun fR dH rf gj fV yt=>aU.objE (qa.step gj.step (by simp)) fun p ao=>WM (lc fV.room) hA am fV.store ao yt fun aD tk R S=>alq (fO.put (b3.trans gj) fV R S))))
theorem WP{j:H}{vs:I V}{z:O}{t:kO}{p:aQ×aQ}{Pe:aQ}{Q:qo->bb->Prop}(aE:σ[j]?=D (.list vs))(hz:0<=z/\vs.length<=a4)(R:bX X U σ s.heap)(ao:U[j]?=D p)(pK:s.heap.IsSliceOf Pe (.int z t) .none .none)
  (q:∀aD tk,bX X U (σ.set j (.list (vs.take z.toNat))) aD->Step U U [] s.heap aD->Q () {s with heap:=aD,toks:=tk}):bi (bv X.prog X.w) A (delItem (.ref p.1) (.ref Pe)) Q b4 s:=listAt R aE ao fun aS n hd aj aH=>WO aj pK (.int z t) hz.1 (aH.size▸BA hz.2) fun f bH=>let y:=Bu (us:=vs.take z.toNat) (f:=f) (jts:=(aS.toList.take z.toNat).toArray) R ao aj hd bH (aH.take _);q _ s.toks y.1 y.2
theorem ag5{o lo:bG}{p bW pos:c3}{hh hx:E}(h0:bQ X P C n ai o hh)(hi:bQ X P C n ai lo hx):hb X P C n ai (.Delete [.Subscript o (.Slice (D lo) aa aa p) bW] pos) (.qQ hh hx):= .intro fun J σ A U s en c j bS ah z fT aN vs hA hz=>alh (alp (akE (h0.run ah c fun cC bC cO b3 ch qa=>wpAny_Slice (hi.run aN ch fun fR dH rf gj fV yt=>aU.gP yt fun t=>by
  rw[RP]
  refine dE (dE ?_)
  have f3:=(b3.trans gj).trans (Reach.push (s:=dH) (o:= {cls:= .type "slice",data:= .fields #[.int z t,.none,.none]}))
  have qP:dX X n A fR {dH with heap:=dH.heap.push {cls:= .type "slice",data:= .fields #[.int z t,.none,.none]}} ai en J fT:=fV.next Reach.push (fV.store.keeps fun a dp e=>hJ _ e)
  exact aU.objE (qa.step gj.step (by simp)) fun p ao=>WP hA hz qP.store ao (akU ..) fun aD tk R S=>alq (fO.put f3 qP R S)))))
end
end
section
open PySem.SeqAt
section
variable {X:c0}{U bj:cu}{h aD:bP}{ai eR:cR}{en:e6}{J bt:Loc}{σ aM bS af:St}{P:c4}{C:Cl}{n:H}{A:ea}{s:bb}
theorem Jw{kindOf:aK->aJ kM}:∀ {lA:I (aK×al)} {m:aK->aJ al} {y:aK},y∉lA.map (·.1)->bindL kindOf lA m y=m y
 |[],_,_,_=>rfl
 |(a,v)::r,m,y,h=>by
  simp only[eI,dj,qp]at h
  unfold bindL
  rw[Jw h.2]
  split
  ·simp[h.1]
  ·rfl
theorem Ju{kindOf:aK->aJ kM}:∀ {lA:I (aK×al)} {m:aK->aJ al} {y:aK},y∉lA.map (·.1)->bindC kindOf lA m y=m y
 |[],_,_,_=>rfl
 |(a,v)::r,m,y,h=>by
  simp only[eI,dj,qp]at h
  unfold bindC
  rw[Ju h.2]
  split
  ·rfl
  ·simp[h.1]
theorem Jx{kindOf:aK->aJ kM}:∀ {lA:I (aK×al)} {m:aK->aJ al} {y:aK} {v:al},(lA.map (·.1)).Nodup->(y,v)∈lA->kindOf y=D .local->bindL kindOf lA m y=D v
 |[],_,_,_,_,h,_=>by cases h
 |(a,u)::r,m,y,v,cj,h,am=>by
  rw[eI,hH]at cj
  unfold bindL
  rcases dj.mp h with e|h
  ·cases e
   rw[Jw cj.1,a7 am];simp
  ·exact Jx cj.2 h am
theorem Jv{kindOf:aK->aJ kM}:∀ {lA:I (aK×al)} {m:aK->aJ al} {y:aK} {v:al},(lA.map (·.1)).Nodup->(y,v)∈lA->kindOf y=D .cell->bindC kindOf lA m y=D v
 |[],_,_,_,_,h,_=>by cases h
 |(a,u)::r,m,y,v,cj,h,am=>by
  rw[eI,hH]at cj
  unfold bindC
  rcases dj.mp h with e|h
  ·cases e
   rw[Ju cj.1,bz (by rw[am];decide)];simp
  ·exact Jv cj.2 h am
theorem JK:∀ {names:I (aK×kM)} {k:H} {cb:I (aK×aQ)} {p:aK×aQ},p∈cellsFrom k names cb->p∈cb\/(p.1,RD)∈names
 |[],_,_,_,h=> .inl h
 |(a,aW)::r,k,cb,p,h=>by
  unfold cellsFrom at h
  split at h
  ·rename_i q
   rcases JK h with e|e
   ·rcases dj.mp e with rfl|e
    ·have:aW= .cell:=by simpa using q
     exact .inr (by rw[<-this];exact .head _)
    ·exact .inl e
   ·exact .inr (.tail _ e)
  ·rcases JK h with e|e
   ·exact .inl e
   ·exact .inr (.tail _ e)
theorem zA:∀ {names:I (aK×kM)} {k:H} {cb:I (aK×aQ)} {x:aK},((x,RD)∈names\/(cb.lookup x).isSome=ae)->((cellsFrom k names cb).lookup x).isSome=ae
 |[],_,_,_,h=>by rcases h with h|h;cases h;exact h
 |(a,aW)::r,k,cb,x,h=>by
  unfold cellsFrom
  split
  ·rename_i q
   refine zA ?_
   by_cases e:x=a
   ·subst e;exact .inr (by simp)
   ·rcases h with h|h
    ·rcases dj.mp h with z|z
     ·cases z;exact absurd rfl e
     ·exact .inl z
    ·exact .inr (by simpa[mS,n1.mpr e]using h)
  ·rename_i q
   refine zA ?_
   rcases h with h|h
   ·rcases dj.mp h with z|z
    ·cases z;exact absurd rfl q
    ·exact .inl z
   ·exact .inr h
theorem DB:∀ {names:I (aK×kM)} {k:H} {cb:I (aK×aQ)},(names.map (·.1)).Nodup->(cb.map (·.1)).Nodup->(∀p∈cb,p.1∉names.map (·.1))->((cellsFrom k names cb).map (·.1)).Nodup
 |[],_,_,_,h,_=>h
 |(a,aW)::r,k,cb,cj,h,hd=>by
  rw[eI,hH]at cj
  unfold cellsFrom
  split
  ·refine DB cj.2 ?_ fun p ao=> ?_
   ·rw[eI,hH]
    refine⟨fun q=> ?_,h⟩
    obtain⟨p,ao,e⟩:=dk.mp q
    exact hd p ao (by simp only[eI];exact e▸ .head _)
   ·rcases dj.mp ao with rfl|ao
    ·exact cj.1
    ·exact fun q=>hd p ao (by simp only[eI];exact .tail _ q)
  ·exact DB cj.2 h fun p ao q=>hd p ao (by simp only[eI];exact .tail _ q)
theorem M1:∀ {l:I (aK×aQ)} {y:aK} {k:aQ},(l.map (·.1)).Nodup->(y,k)∈l->l.lookup y=D k
 |[],_,_,_,m=>by simp at m
 |(a,b)::l,y,k,cj,m=>by
  rw[eI,hH]at cj
  rcases dj.mp m with e|e
  ·cases e;simp
  ·have:y≠a:=fun q=>cj.1 (q▸dk.mpr ⟨_,e,rfl⟩)
   simp[mS,n1.mpr this,M1 cj.2 e]
section
set_option genSizeOf false
set_option genInjectivity false
structure r2(X:c0)(P:c4)(f:H)(F:b7)where
 fd:ql
 body:I gV
 ai:cR
 ps:I aK
 ds:I al
 obj:∃o,X.K.lookup (X.jr f)=D o/\o.data= .func fd
 code:∃c o vs t,fd.code= .ref c/\X.K.lookup c=D o/\o.data= .fields vs/\vs[1]?=D (.str fd.qualname t)
 Jy:fd.body= .stmts body
 JQ:fd.closure=[]
 co:fd.scope.isCoroutine=aw
 gen:fd.scope.isGenerator=aw
 kind:fd.scope.kind= .function
 glob:fd.globals=l8
 qJ:fd.builtins=rZ
 np:ps.length=F.bU
 Op:ps.Nodup
 Oo:∀x∈ps,fd.scope.names.lookup x=D .local\/fd.scope.names.lookup x=D .cell
 nodup:(fd.scope.names.map (·.1)).Nodup
 slots:∀x i,ai.slots.lookup x=D i->(fd.scope.names.lookup x=D .local\/fd.scope.names.lookup x=D .cell)/\(i < F.bU->ps[i]?=D x)
 ok:ai.ok=ae
 fD:∀g∈ai.fD,fd.scope.names.lookup g=D .globalImplicit
 h3:∀g∈ai.h3,fd.scope.names.lookup g=D .cell
 mq:bK [] X.h₀ F.dflt ds
 bind:∀(s:bb) (vals:I al),X.K.In s.heap->vals.length<=F.bU->F.bU<=vals.length+F.dflt.length->BindsTo s fd ⟨vals,[]⟩ (ps.zip (vals++ds.drop (F.dflt.length - (F.bU - vals.length))))
 run:∀C n,kh X C n->n5 P C->lw X P C n ai body F.body
end
theorem aiQ(R:bX X U σ h){vs:I V}{xs:I al}(w:bK [] X.h₀ vs xs):bK U h vs xs:=w.step (P8 R) (by simp)
noncomputable def qT:ev->aJ V
 |.ret v=>D v
 |.next=>D .none
 |.brk|.cont=>aa
theorem Xh{F:b7}{vs:I V}{jj:Loc}(h:enter F vs=D jj):(vs.length<=F.bU/\F.bU<=vs.length+F.dflt.length)/\jj=(vs++F.dflt.drop (F.dflt.length - (F.bU - vs.length))).map D++yG (F.cm - F.bU) aa:=let⟨a,b⟩:=nq h;⟨a,(bD b).symm⟩
theorem Xi{a n d:H}(h:a<=n/\n<=a+d):a+(d - (d - (n - a)))=n:=by
 rw[akx (akv (l6 a d▸h.2)),akh h.1]
theorem Zx{all:I V}{m i:H}{u:V}(cd:c2 (all.map D++yG m aa) i=D u):all[i]?=D u:=by
 unfold c2 at cd
 rw[List.getElem?_append]at cd
 by_cases l:i < (all.map D).length
 ·rw[a7 l,rR]at cd
  cases q:all[i]? with
  |none=>rw[q]at cd;exact cD cd
  |some z=>rw[q]at cd;exact cd
 ·rw[bz l]at cd
  cases q:(yG m (none:aJ V))[i - (all.map D).length]? with
  |none=>rw[q]at cd;exact cD cd
  |some z=>rw[q,List.eq_of_mem_replicate (im q)]at cd;exact cD cd
theorem Xj{f:H}{F:b7}(K:r2 X P f F)(R:bX X U σ s.heap){all:I V}{xs:I al}{m:H}(ol:all.length=F.bU)(vS:bK U s.heap all xs)(A9:((K.ps.zip xs).map (·.1)).Nodup){env:e6}{a2:bb}
  (aT:env.scope=K.fd.scope) (aX:env.cells=cellsFrom (s.heap.objs.size+1) K.fd.scope.names []) (bZ:env.locals=s.heap.objs.size) (dP:env.globals=K.fd.globals) (eD:env.builtins=K.fd.builtins)
  (x:InCallC s env.locals (bindL env.kindOf (K.ps.zip xs) fun _=>aa) env.cells (bindC env.kindOf (K.ps.zip xs) fun _=>aa) a2):
  eZ X U a2.heap K.ai env (all.map D++yG m aa)/\∀a∈ownOf env,s.heap.get? a=aa:=by
 have aW:∀y,env.kindOf y=K.fd.scope.names.lookup y:=fun y=>aT▸rfl
 have xW:∀a∈ownOf env,s.heap.get? a=aa:=fun a aI=>by
  rcases dj.mp aI with e|aI
  ·exact iZ (gb (e.trans bZ).symm)
  ·obtain⟨p,ao,e⟩:=dk.mp aI
   exact iZ (kf (e▸bZ▸x.above p.1 p.2 ao))
 have S0:Step U U [] s.heap a2.heap:=Step.of_keeps _ _ x.toInCall.keep
 have hA:∀ {y},K.fd.scope.names.lookup y=D .cell->∃c,env.cells.lookup y=D c:=fun am=>aX▸HN.mp (zA (.inl (mem_of_lookup am)))
 refine⟨⟨aT▸K.kind,dP.trans K.glob,eD.trans K.qJ,⟨_,x.toInCall.ns,fun y i bo=> ?_⟩,fun g bR=>(aW g).trans (K.fD g bR),fun y c aE=>⟨_,x.cell y c (M1 (aX▸DB K.nodup (by simp) (by simp)) aE)⟩,x.apart,fun a aI=>R.fq (xW a aI),fun a aI=>R.yo (xW a aI),fun y bo=>⟨(aW y).trans (K.h3 y bo),hA (K.h3 y bo)⟩⟩,xW⟩
 obtain⟨am,ao⟩:=K.slots y i bo
 have got:∀ {u:V},c2 (all.map D++yG m aa) i=D u->∃val,(y,val)∈K.ps.zip xs/\aU U a2.heap u val:=fun{u} cd=>by
  have cd:=Zx cd
  obtain⟨val,aaO,aaP⟩:=vS.get cd
  exact⟨val,im (i:=i) (List.getElem?_zip_eq_some.mpr ⟨ao (ol▸(fj.mp cd).1),aaO⟩),aaP.step S0 (by simp)⟩
 rcases am with am|am
 ·exact .inl ⟨(aW y).trans am,fun u cd=>(got cd).elim fun val w=>⟨val,Jx A9 w.1 ((aW y).trans am),w.2⟩⟩
 ·obtain⟨c,aE⟩:=hA am
  exact .inr ⟨(aW y).trans am,c,_,aE,x.cell y c aE,fun u cd=>(got cd).elim fun val w=>⟨val,Jv A9 w.1 ((aW y).trans am),w.2⟩⟩
theorem afh(room:r4 (n+1) A){env:e6}:qw n (A.deeper env):=⟨c9 (gb (show A.depth+1+2 * n+2=A.depth+2 * (n+1)+1 by omega)) room.1,c9 (show A.units+3+16 * n+64<=A.units+16 * (n+1)+60 by omega) room.2.1,room.2.2⟩
theorem Wc{f:H}{F:b7}(K:r2 X P f F)(dA:kh X C n)(a5:n5 P C){vs:I V}{jj:Loc}(he:enter F vs=D jj){fl:ev}{d6:Loc}{v:V}(bg:cQ P C F.body jj σ=D (fl,d6,af))(aH:qT fl=D v)
  {vals:I al} (room:r4 (n+1) A) (R:bX X U σ s.heap) (hw:bK U s.heap vs vals):
  codeAny (bv X.prog X.w) A (.call (.ref (X.jr f)) ⟨vals,[]⟩) (fun r bc=>∃val,r= .ok (.ret val)/\dN X U s v af val bc) s:=by
 obtain⟨fW,hg⟩:=Xh he
 have vS:bK U s.heap (vs++F.dflt.drop (F.dflt.length - (F.bU - vs.length))) (vals++K.ds.drop (F.dflt.length - (F.bU - vals.length))):=hw.length▸hw.append ((aiQ R K.mq).drop _)
 have Ls:=K.bind s vals R.kw (hw.length▸fW.1) (hw.length▸fW.2)
 have u4:(vs++F.dflt.drop (F.dflt.length - (F.bU - vs.length))).length=F.bU:=by rw[fw,aj3];exact Xi fW
 obtain⟨all,ol⟩:∃all,all=vs++F.dflt.drop (F.dflt.length - (F.bU - vs.length)):=⟨_,rfl⟩
 obtain⟨xs,aaU⟩:∃xs,xs=vals++K.ds.drop (F.dflt.length - (F.bU - vals.length)):=⟨_,rfl⟩
 rw[<-ol]at vS u4 hg
 rw[<-aaU]at vS Ls
 have My:(K.ps.zip xs).map (·.1)=K.ps:=List.map_fst_zip (gb (K.np.trans (vS.length.trans u4).symm))
 have A9:((K.ps.zip xs).map (·.1)).Nodup:=by rw[My];exact K.Op
 have aeu:∀x∈K.ps.zip xs,K.fd.scope.names.lookup x.1=D .local\/(K.fd.scope.names.lookup x.1=D .cell/\((cellsFrom (s.heap.objs.size+1) K.fd.scope.names []).lookup x.1).isSome=ae):=fun x aA=>(K.Oo x.1 (My▸dk.mpr ⟨x,aA,rfl⟩)).imp id fun q=>⟨q,zA (.inl (mem_of_lookup q))⟩
 obtain⟨o,aR,hd⟩:=K.obj
 obtain⟨jn,rr,Hk,ahQ,eL,bT,hv,i9⟩:=K.code
 refine codeAny_call_function (c9 (cp (cn _ _) (eJ _)) room.1) (R.kw _ _ aR) hd K.co K.gen K.Jy ⟨jn,rr,Hk,ahQ,eL,R.kw _ _ bT,hv,i9⟩ (Ls _ _ _ _ ?_)
 rw[K.JQ]
 refine wpAny_newFunctionEnv_cells K.kind aeu fun env xe a2 x=>⟨(X.nolimit.keeps R.top).keeps x.toInCall.keep,codeAny_func ?_⟩
 obtain⟨N,xW⟩:=Xj (m:=F.cm - F.bU) K R u4 vS A9 (xe▸rfl) (xe▸rfl) (xe▸rfl) (xe▸rfl) (xe▸rfl) x
 refine(K.run C n dA a5).run bg ⟨afh room,R.keeps x.toInCall.keep,hg▸N⟩ fun cC bC w4 w b3 ch=> ?_
 have aeW:Reach [] U s U a2:=⟨x.toInCall.same,Step.of_keeps _ _ x.toInCall.keep⟩
 have vz:Reach [] U s cC bC:=(aeW.wide.trans b3).tG fun a aI=> .inr (xW a aI)
 refine w.cases (fun e=> ?_) (fun e=>cD (e▸aH:qT .cont=D v)) (fun e=>cD (e▸aH:qT .brk=D v)) fun u x e z=> ?_
 ·exact⟨_,rfl,cC,vz,ch.store,(bD (e▸aH:qT .next=D v))▸rfl⟩
 ·exact⟨_,rfl,cC,vz,ch.store,(bD (e▸aH:qT (.ret u)=D v))▸z⟩
theorem Kw{f:H}{vs:I V}{v:V}{G:Prop}(h:az P (n+1) f vs σ=D (v,af))(k:∀F jj fl d6,P.fn f=D F->enter F vs=D jj->cQ P (az P n) F.body jj σ=D (fl,d6,af)->qT fl=D v->G):G:=br h fun F ag h=>br h fun jj ah h=>br h fun p aN h=>by
  obtain⟨fl,d6,aF⟩:=p
  cases fl with
  |next=>exact ff (ar:=fun v af=>(∀F jj fl d6,P.fn f=D F->enter F vs=D jj->cQ P (az P n) F.body jj σ=D (fl,d6,af)->qT fl=D v->G)->G) h (fun k=>k F jj _ d6 ag ah aN rfl) k
  |ret u=>exact ff (ar:=fun v af=>(∀F jj fl d6,P.fn f=D F->enter F vs=D jj->cQ P (az P n) F.body jj σ=D (fl,d6,af)->qT fl=D v->G)->G) h (fun k=>k F jj _ d6 ag ah aN rfl) k
  |brk|cont=>exact cD h
theorem Wa(n:H):n5 P (az P n):=fun f vs σ r h=>by
 cases n with
 |zero=>exact cD h
 |succ n=>exact Kw h fun F _ _ _ ag _ _ _=>⟨F,ag⟩
theorem Wd(dZ:∀f F,P.fn f=D F->Ct (r2 X P f F))(n:H):kh X (az P n) n:=by
 induction n with
 |zero=>exact fun f vs σ v af h=>cD h
 |succ n bh=>exact fun f vs σ v af h A U s vals room R hw=>Kw h fun F jj fl d6 ag ah aN b1=>(dZ f F ag).elim fun K=>Wc K bh (Wa n) ah aN b1 room R hw
structure CN(X:c0)(P:c4):Prop where
 here:∀g,(P.lD g).isEmpty=aw->∃ad b5,X.mg (X.jW g)=D (.ref ad)/\X.h₀.DictOf (intKind X.prog X.w) ad b5/\(ad==sysModules)=aw/\
  ∀i,match(P.lD g).lookup i with|some j=>∃t,valueAt b5 i=D (.int j t)|none=>valueAt b5 i=aa
theorem Kd{ad:aQ}{b5:I (O×al)}(R:bX X U σ h)(m:X.h₀.DictOf (intKind X.prog X.w) ad b5):h.DictOf (intKind X.prog X.w) ad b5:=DictOf.to m fun o e=>R.top _ o e
theorem afX(dL:CN X P){g:H}{x:aK}{a b:bG}{p gs pos:c3}{k d:E}(aA:x∈ai.fD)(bR:X.jW g=x)(Z0:(x==("__debug__" :aK))=aw)(ao:(gs.endLine==pos.line)=ae)(aI:f0 a=ae)(ax:f0 b=ae)(am:bQ X P C n ai a k)(hd:bQ X P C n ai b d):
  bQ X P C n ai (.Call (.Attribute (.Name x p) "get" gs) [a,b] [] pos) (.pB g k d):= .intro fun J σ A U s en c i aM ag z bS ah cc=>by
 obtain⟨ad,b5,lM,pQ,FF,acv⟩:=dL.here g cc
 refine D5 rfl ao (GU aI ax) (by decide:2 < 30) fun gv=>AT c aA (bR▸lM) Z0 ?_
 obtain⟨o,aR,aE,Z4⟩:=DR (Kd c.store pQ)
 refine ala ⟨o,aR,aE⟩ Rz qk RC (fun a e=>by cases e;exact⟨o,aR,Z4⟩) ?_
 refine qM (Ph:=fun _=>True) (first:=[.ref ad]) (GU aI ax) sW (.cons am (.cons hd .nil)) (Kx ag ah) c fun cC bC xs b3 ch w=>⟨trivial, ?_⟩
 refine bK.Qh (P:=fun xs=>bi (bv X.prog X.w) A (call (.builtin "dict.get") (.ref ad::xs) []) _ b4 bC) w fun i3 yu a9 bE=>aU.gP a9 fun t=> ?_
 have dv:=Kd ch.store pQ
 refine wd qk dv.typeIs wa (HT _ _ _) (RQ _ _ sL FF yu) ⟨_,dv.mapOf,kn b3 ch.store ?_⟩
 have:=acv i
 cases q:(P.lD g).lookup i with
 |some j=>rw[q]at this;obtain⟨eF,cH⟩:=this;rw[cH];exact⟨eF,rfl⟩
 |none=>rw[q]at this;rw[this];exact bE
end
end
section
open PySem.SeqAt
section
variable {X:c0}{U bj:cu}{h aD:bP}{ai eR:cR}{en:e6}{J bt:Loc}{σ aM bS af:St}{P:c4}{C:Cl}{n:H}{A:ea}{s:bb}
theorem Hd{j:H}:∀ {l vs:I V},rH j l=D vs->l.length=vs.length/\∀(i:H) (v:V),l[i]?=D v->∃us u,v= .ab us/\us[j]?=D u/\vs[i]?=D u
 |[],vs,h=>by simp only[rH]at h;cases h;exact⟨rfl,fun i v h=>by simp at h⟩
 |x::l,vs,h=>by
  cases x <;>simp only[rH,reduceCtorEq]at h
  rename_i us
  simp only[tU]at h
  obtain⟨u,ag,eP,ah,aN⟩:=h
  cases aN
  obtain⟨a,b⟩:=Hd ah
  refine⟨by simp[a],fun i v aH=> ?_⟩
  cases i with
  |zero=>simp at aH;subst aH;exact⟨us,u,rfl,ag,rfl⟩
  |succ i=>simpa using b i v (by simpa using aH)
theorem jk.at{U h}{r:I (V×V)}{l:I (aK×al)}(c:jk U h r l):∀ {i:H} {k:aK} {x:al},l[i]?=D (k,x)->∃v,r[i]?=D (.str k,v):=by
 induction c with
 |nil=>exact fun h=>cD h
 |@cons j v y r l w c bh=>
  intro i k x h
  cases i with
  |zero=>exact⟨v,by rw[(qj (bD (show D (j,y)=D (k,x)from h))).1];rfl⟩
  |succ i=>exact bh h
theorem jk.keys{U h}{r:I (V×V)}{l:I (aK×al)}(c:jk U h r l):r.map (·.1)=(l.map (·.1)).map V.str:=by
 induction c with
 |nil=>rfl
 |cons w c bh=>exact bs _ bh
theorem jk.nodup{U h}{r:I (V×V)}{l:I (aK×al)}(c:jk U h r l)(cj:(l.map (·.1)).Nodup):(r.map (·.1)).Nodup:=by
 rw[c.keys]
 exact amL V.str (fun a b cc e=>cc (V.str.inj e)) cj
theorem MG:∀ {r:I (V×V)} {i:H} {k v:V},(r.map (·.1)).Nodup->r[i]?=D (k,v)->cx r k=D v
 |[],i,k,v,_,h=>by simp at h
 |(a,u)::r,i,k,v,cj,h=>by
  rw[eI,hH]at cj
  cases i with
  |zero=>simp at h;obtain⟨rfl,rfl⟩:=h;simp[cx]
  |succ i=>
   simp only[Q6]at h
   have:a≠k:=fun e=>cj.1 (e▸dk.mpr ⟨_,im h,rfl⟩)
   simp only[cx,this,kR]
   exact MG cj.2 h
theorem aej{α dg:Type}{F:α->dg->Prop}{M9:I α}{Na:I dg}(r:Paired F M9 Na):∀ {i:H} {a:α},M9[i]?=D a->∃b,Na[i]?=D b/\F a b:=by
 induction r with
 |nil=>exact fun h=>cD h
 |cons q r bh=>
  intro i a h
  cases i with
  |zero=>exact⟨_,rfl,bD h▸q⟩
  |succ i=>exact bh h
theorem Dx{v:V}{vs:I V}(h:(hc (v::vs)).isSome=ae):(∃b,v= .bool b)/\(hc vs).isSome=ae:=by
 cases v with
 |bool b=>
  refine⟨⟨b,rfl⟩, ?_⟩
  cases q:hc vs with
  |none=>replace h:((hc vs).bind fun l=>D (b::l)).isSome=ae:=h;rw[q]at h;cases h
  |some l=>rfl
 |none|int _|str _|ab _|lst _|obj _=>exact nomatch (show aw=ae from h)
theorem VX{vs:I V}(h:(hc vs).isSome=ae):∀ {a:H} {u:V},vs[a]?=D u->∃b,u= .bool b:=by
 induction vs with
 |nil=>exact fun h=>cD h
 |cons v vs bh=>
  intro a u e
  cases a with
  |zero=>exact bD e▸(Dx h).1
  |succ a=>exact bh (Dx h).2 e
theorem aiP{vs:I V}:∀ {d4:I al},(hc vs).isSome=ae->d4.length=vs.length->(∀(i:H) (b:au),vs[i]?=D (.bool b)->d4[i]?=D (.bool b))->bK U h vs d4:=by
 induction vs with
 |nil=>exact fun _ aj _=>Q0 aj
 |cons v vs bh=>
  intro d4 ax aj bR
  obtain⟨⟨b,e⟩,pF⟩:=Dx ax
  cases d4 with
  |nil=>exact nomatch aj
  |cons y d4=>exact⟨y,d4,rfl,by rw[e];exact bD (bR 0 b (by rw[e];rfl)),bh pF (HL aj) fun i b ax=>bR (i+1) b ax⟩
noncomputable def Got(kvs:I (V×V))(j:H)(k:aK)(y:al):Prop:=∃us b,cx kvs (.str k)=D (.ab us)/\us[j]?=D (.bool b)/\y= .bool b
theorem Got.same{kvs:I (V×V)}{j:H}{k:aK}{y:al}{us:I V}{b:au}(g:Got kvs j k y)(ag:cx kvs (.str k)=D (.ab us))(ah:us[j]?=D (.bool b)):y= .bool b:=by
 obtain⟨amC,fz,g1,g2,g3⟩:=g
 have e:=V.ab.inj (bD (g1.symm.trans ag))
 rw[e]at g2
 rw[g3,V.bool.inj (bD (g2.symm.trans ah))]
theorem ZE{kvs:I (V×V)}{b5:I (aK×al)}{j:H}{vs:I V}(cM:jk U h kvs b5)(aan:(b5.map (·.1)).Nodup)(aN:rH j (kvs.map (·.2))=D vs)(hz:(hc vs).isSome=ae){k:aK}{x:al}{a:H}(e:b5[a]?=D (k,x)):
  ∃us b,cx kvs (.str k)=D (.ab us)/\us[j]?=D (.bool b)/\vs[a]?=D (.bool b):=by
 obtain⟨v,aH⟩:=cM.at e
 obtain⟨us,u,aT,a6,bl⟩:=(Hd aN).2 a v (by rw[rR,aH];rfl)
 obtain⟨b,aX⟩:=VX hz bl
 exact⟨us,b,aT▸MG (cM.nodup aan) aH,aX▸a6,aX▸bl⟩
theorem afa{scope:kN}{t:aK}(am:en.scope.kind= .function)(xc:scope.names.lookup t=D .free)(sE:en.kindOf t=D .cell):(relabel scope en).names.lookup t=D .cell:=by
 rw[u8,xc,am,sE];rfl
theorem afb{scope:kN}{x:aK}(h:scope.names.lookup x=D .local):(relabel scope en).names.lookup x=D .local:=by rw[u8,h];rfl
theorem Xv{us:I V}{j:H}{v:V}(cg:j < 100)(h:us[j]?=D v):ee σ (.ab us) (.int (j:O))=D v:=by
 show(V.int? (.int (j:O))).bind (fun i=>q9 us i)=D v
 rw[show V.int? (.int (j:O))=D (j:O)from rfl,tV]
 have l:((j:H):O) < (a4:H):=fv.mpr (gm cg (by decide))
 unfold q9
 rw[a7 l,a7 (kd j)]
 exact h
theorem WH{ec:e6}{t x:aK}{m j:H}{hn gR kE oH nH:c3}{dy:H}{kvs:I (V×V)}{k:aK}{tk:kO}{ca:aQ}{p:aQ×aQ}{us:I V}{b:au}{Nq:aK->aJ al}{lr:al->bb->Prop}{Q:al->bb->Prop}(cd:A.units+16 < cLine)(cg:j < 100)(Ao:(t==("__debug__" :aK))=aw)(EA:(x==("__debug__" :aK))=aw)
  (LJ:ec.scope.kind= .function) (aaf:ec.kindOf t=D .cell) (aaT:ec.kindOf x=D .local) (xb:ec.cells.lookup t=D ca) (mx:s.heap.IsCell ca (D (.ref p.1))) (aZ:s.heap.Ns ec.locals Nq) (aA:Nq x=D (.str k tk)) (R:bX X U σ s.heap) (hA:σ[m]?=D (.dict .s kvs)) (ao:U[m]?=D p)
  (g1:cx kvs (.str k)=D (.ab us)) (g2:us[j]?=D (.bool b)) (q:∀y tk,y= .bool b->Q y {s with toks:=tk}):
  bi (bv X.prog X.w) A (gn (.Subscript (.Subscript (.Name t hn) (.Name x gR) kE) (.Constant (.int (j:O)) dy oH) nH) ec) Q lr s:=by
 refine HO (HO (CB (RZ LJ aaf xb mx (CB (alu LJ aaT aZ aA ?_) EA)) Ao))
 refine e7 (G4 (σ:=σ) (o:= .obj m) (i:= .str k) (v:= .ab us) cd ?_ R ⟨p,ao,rfl⟩ ⟨tk,rfl⟩ rfl fun val G7 bE=> ?_) (fun _ _ z=>z) fun _ _ z=>z.elim
 ·show(σ[m]?.bind _)=_
  rw[hA]
  show(if gp.s.ok (.str k)=ae then cx kvs (.str k)else aa)=_
  exact(a7 rfl).trans g1
 ·refine alg (e7 (G4 (s:= {s with toks:=G7+1}) (σ:=σ) (o:= .ab us) (i:= .int j) (v:= .bool b) cd ?_ R bE ⟨_,rfl⟩ rfl fun amG ah6 cG=>q _ _ cG) (fun _ _ z=>z) fun _ _ z=>z.elim)
  exact Xv cg g2
theorem Li{bB:aQ}{o:db}(a5:h.get? bB=aa)(am:∀b dp,b∉ [bB]->(h.push o).get? b=D dp->aD.get? b=D dp):∀b dp,h.get? b=D dp->aD.get? b=D dp:=fun b dp e=>am b dp (fun q=>by rw[dt.mp q,a5]at e;cases e) (hJ _ e)
theorem WI{dL:aQ}{d4:dD al}{ws:I al}{kvs:I (V×V)}{b5:I (aK×al)}{vs:I V}{j:H}{tk:kO}(bu:bP)(R:bX X U σ s.heap)(keep:∀b o,s.heap.get? b=D o->bu.get? b=D o)(Ag:s.heap.get? dL=aa)(aaw:bu.PlainList dL d4)
  (got:∀ {k:aK} {x:al} {a:H},b5[a]?=D (k,x)->∃us b,cx kvs (.str k)=D (.ab us)/\us[j]?=D (.bool b)/\vs[a]?=D (.bool b)) (hz:(hc vs).isSome=ae) (nj:b5.length=vs.length) (fW:ws.length=b5.length)
  (sw:∀(a:H) (v:al),ws[a]?=D v->∃k x,b5[a]?=D (k,x)/\(alf X.prog X.w).is k v=ae) (dZ:Paired (fun v y=>∀k t,v= .str k t->Got kvs j k y) ws d4.toList):dN X U s (.obj σ.length) (σ++ [.list vs]) (.ref dL) {s with heap:=bu,toks:=tk}:=by
 have nV:bK (U++ [(dL,dL)]) bu vs d4.toList:=aiP hz (dZ.length.symm.trans (fW.trans nj)) fun a b ax=>by
  have aI:a < ws.length:=by rw[fW,nj];exact(fj.mp ax).1
  obtain⟨k,ajd,aT,aX⟩:=sw a _ (hG aI)
  obtain⟨ah5,bZ⟩:=akZ (x:=k) aX
  obtain⟨us,fz,g1,g2,g3⟩:=got aT
  obtain⟨y,lp,Cb⟩:=aej dZ (hG aI)
  rw[lp,(Cb k ah5 bZ).same g1 g2,V.bool.inj (bD (g3.symm.trans ax))]
 obtain⟨R',iu⟩:=R.alloc (c:= .list vs) (p:=(dL,dL)) Ag Ag keep ⟨rfl,d4,aaw,nV⟩
 exact⟨_,⟨⟨bu,tk,rfl⟩,iu⟩,R',_,tc R,rfl⟩
theorem afT{scope:kN}{t x:aK}{i abt j:H}{hn gR kE oH nH aeg px pos:c3}{dy:H}(K:r1 ai scope x abt eR)(hi:ai.slots.lookup t=D i)(cg:j < 100)(xc:scope.names.lookup t=D .free)(Ao:(t==("__debug__" :aK))=aw)(EA:(x==("__debug__" :aK))=aw):
  bQ X P C n ai (.ListComp (.Subscript (.Subscript (.Name t hn) (.Name x gR) kE) (.Constant (.int (j:O)) dy oH) nH) [⟨.Name x px,.Name t aeg,[],0⟩] scope pos) (.m8 i j):= .intro fun J σ A U s en c m ag kvs hA vs aN hz=>oa fun G bV=>by
 have sD:∀y∈scope.names,y.2= .free->∃c,en.cells.lookup y.1=D c:=fun y bo e=>(c.env.h3 y.1 (K.free y bo e)).2
 obtain⟨sE,ca,xb⟩:=c.env.h3 t (K.free _ (mem_of_lookup xc) rfl)
 have sp:=wL c.env.apart scope.names [] K.nodup sD (by simp) .nil
 obtain⟨acs,LO,ju⟩:=c.env.slots
 rcases ju t i hi with⟨q,_⟩|⟨_,alN,cO,ZX,mx,aaQ⟩
 ·exact nomatch sE.symm.trans q
 rw[<-bD (xb.symm.trans ZX)]at mx
 obtain⟨B2,aT,p,ao,aX⟩:=aaQ _ ag
 rw[aT,aX]at mx
 obtain⟨hd,b5,dO,cM⟩:=c.store.cells _ _ _ hA ao
 obtain⟨ep,pE⟩:=dO.dictAt
 have got:=fun{k x a}=>ZE (k:=k) (x:=x) (a:=a) cM (FV dO) aN hz.2
 have nj:b5.length=vs.length:=cM.len.trans ((d5 ..).symm.trans (Hd aN).1)
 have gL:p.1 < s.heap.objs.size:=pE.lt_size
 have Ln:=sv s.heap
 refine bV (wpAny_ListComp_free (cl:=jQ en scope.names []) (fun _=>ae) (fun v y=>∀k t,v= .str k t->Got kvs j k y)
  (JS sD) K.NF K.kind (fun y bo e=>by obtain⟨a,b⟩:=y;exact e▸xE K.nodup bo) K.p8 ?_ (Ed rfl en))
 refine CB (RZ c.env.kind sE xb mx ?_) Ao
 refine wpAny_pyIter_dict (c.store.rq ao) pE ⟨s.heap.objs.size,_,_,_,_,_,rfl,Walks.dictKeys (knd:=alf X.prog X.w) c.room.2.2 s.heap.objs.size p.1 (hI gL) b5 ep, ?_, ?_, ?_,⟨?_, ?_⟩, ?_⟩
 ·rw[nj];exact cp hz.1 (by decide)
 ·exact⟨⟨_,iL _ rfl,rfl,rfl⟩,pE.push _⟩
 ·intro b ax
  show b < (s.heap.push _).objs.size
  rw[yK]
  rcases dj.mp ax with e|ax
  ·rw[e];exact rV _
  ·rw[dt.mp ax];exact nY gL
 ·intro C i v dH acK Sj _ _ _ _ _ _
  exact alB ⟨rfl,dH.heap,dH.toks,rfl,fun _ _ e=>e⟩
 ·intro Sc a v dH acK Sj dA sw _ EO LX xg _
  obtain⟨k,ajd,aT,aX⟩:=sw
  obtain⟨tk,bZ⟩:=akZ (x:=k) aX
  obtain⟨us,b,g1,g2,_⟩:=got aT
  have Mt:=Li Ln xg
  rw[bZ]at LX
  refine WH (ec:=compEnvC scope (jQ en scope.names []) Sc en) (lc c.room) cg Ao EA K.kind (afa c.env.kind xc sE) (afb K.p8) (sp.2.2 t ca (.inl ⟨mem_of_lookup xc,xb⟩)) (mx.keeps Mt) EO LX (c.store.keeps Mt) hA ao g1 g2 fun y tk wX=>⟨fun k' eF e=> ?_,dH.heap,tk,rfl,fun _ _ e=>e⟩
  rw[<-(am8 (bZ.symm.trans e)).1]
  exact⟨us,b,g1,g2,wX⟩
 ·intro dL aD tk d4 ws oj alZ aax fW sw dZ am
  have Ag:s.heap.get? dL=aa:=by
   cases q:s.heap.get? dL with
   |none=>rfl
   |some o=>exact nomatch oj.symm.trans (hJ _ q)
  exact WI aD c.store (Li Ln am) Ag aax got hz.2 nj fW sw ((List.filter_eq_self.mpr fun _ _=>rfl:ws.filter (fun _=>ae)=ws)▸dZ)
end
end
section
open PySem.SeqAt
theorem abQ:kas_sort 2= .ask 1 0 fun c=>match c with|true=> .ret #[1,0]|false=> .ret #[0,1]:=by
 show KasT.ask _ _ _=_
 congr 1
 funext c
 cases c <;>rfl
section
variable {X:c0}{U bj:cu}{h aD:bP}{ai eR:cR}{en:e6}{J bt:Loc}{σ aM bS af:St}{P:c4}{C:Cl}{n:H}{A:ea}{s:bb}
noncomputable def Bm(h:bP)(L:aQ):I (aQ×db):=(gl h.objs.size).filterMap fun a=>if a=L then aa else(h.get? a).map fun o=>(a,o)
theorem Bn{L a:aQ}{o:db}:(a,o)∈Bm h L↔a≠L/\h.get? a=D o:=by
 unfold Bm
 rw[List.mem_filterMap]
 constructor
 ·rintro ⟨b,ax,e⟩
  by_cases q:b=L
  ·simp[q]at e
  ·simp only[q,kR,Cu]at e
   obtain⟨dp,aT,aX⟩:=e
   cases aX
   exact⟨q,aT⟩
 ·rintro ⟨q,e⟩
  exact⟨a,qe.mpr (o4 e),by simp[q,e]⟩
theorem MS{v:V}{a:aK}(h:Fp v=D a):∃as,v= .ab (.str a::as):=by
 refine br h fun l aT h=> ?_
 cases l with
 |nil=>exact cD h
 |cons x as=>exact⟨as,(V.rI aT).trans (by rw[V.BP h])⟩
theorem aiz{α:V×V}{l:I V}(h:Qg l=D α):l=[α.1,α.2]:=by
 cases l with
 |nil=>exact cD h
 |cons x l=>cases l with
  |nil=>exact cD h
  |cons y l=>cases l with
   |nil=>rw[<-bD (show D (x,y)=D α from h)]
   |cons _ _=>exact cD h
theorem agS{v u:V}{G:Prop}(h:yc v=D u)(k:∀p q a b as av,v= .lst [p,q]->p= .ab (.str a::as)->q= .ab (.str b::av)->a≠b->(if rD b a then .lst [q,p]else .lst [p,q])=u->G):G:=br h fun l aT h=>br h fun Om aX h=>br h fun a bZ h=>br h fun b dP h=>(MS bZ).elim fun as eD=>(MS dP).elim fun av hL=>by
  by_cases q:a=b
  ·rw[a7 q]at h;exact cD h
  ·rw[bz q]at h
   exact k Om.1 Om.2 a b as av ((V.AX aT).trans (by rw[aiz aX])) eD hL q (by
    cases z:rD b a with
    |true=>rw[z]at h;exact bD h
    |false=>rw[z]at h;exact bD h)
structure wk(h:bP)(t:aQ)(a:aK)(k:kO)(o:db)(aS:dD al)(n:H)(z:I al):Prop where
 aR:h.get? t=D o
 aE:o.cls= .type "tuple"
 hd:o.data= .seq aS n
 hi:aS.toList= .str a k::z
theorem wk.ug{t:aQ}{a:aK}{k:kO}{o:db}{aS:dD al}{n:H}{z:I al}(l:wk h t a k o aS n z):aS[0]?=D (.str a k):=by rw[<-n3,l.hi];rfl
theorem MT{p:V}{a:aK}{as:I V}{x:al}{G:Prop}(e:p= .ab (.str a::as))(w:aU U h p x)(g:∀t k o aS n z,x= .ref t->wk h t a k o aS n z->G):G:=by
 rw[e]at w
 obtain⟨t,aS,aT,⟨o,aR,aE,n,hd⟩,_,v⟩:=w
 obtain⟨y,z,aX,⟨k,bZ⟩,_⟩:=v
 exact g t k o aS n z aT ⟨aR,aE,hd,aX.trans (by rw[bZ])⟩
theorem NM{L t:aQ}{m:aK->aJ al}{o:db}{aS:dD al}{n:H}(hm:h.Ns L m)(aR:h.get? t=D o)(hd:o.data= .seq aS n):t≠L:=fun e=>by
 obtain⟨dp,es,ep,jY,gK,_⟩:=hm
 rw[<-e,aR]at jY;cases jY
 rw[hd]at gK;cases gK
noncomputable def Iz(s:bb)(L:aQ)(m:aK->aJ al)(out:I al)(val:al)(bc:bb):Prop:=∃aD tk dL,val= .ref dL/\bc= {s with heap:=aD,toks:=tk}/\(∀c o,c≠L->s.heap.get? c=D o->aD.get? c=D o)/\aD.Ns L m/\aD.IsList dL out.toArray/\s.heap.get? dL=aa
theorem agU{a b:aK}{l t1 fH L:aQ}{dG cZ:kO}{jz pT:db}{k1 dQ:dD al}{k6 gE:H}{gx hF:I al}{m:aK->aJ al}(aj:s.heap.IsList l [.ref t1,.ref fH].toArray)(a6:wk s.heap t1 a dG jz k1 k6 gx)(bl:wk s.heap fH b cZ pT dQ gE hF)(cc:a≠b)(hm:s.heap.Ns L m):
  bi (bv X.prog X.w) A (call (.builtin "sorted") [.ref l] []) (Iz s L m (if rD b a then [.ref fH,.ref t1]else [.ref t1,.ref fH])) b4 s:=by
 have F:Fr ({}:bP) L s.heap m:=⟨hm,fun b o e=>by simp[akW]at e,kL _⟩
 have N:News ({}:bP) L s.heap (Bm s.heap L):=fun p ao=>⟨(Bn.mp ao).2,(Bn.mp ao).1,by simp[akW]⟩
 refine kat_sorted F N aj (by simp) (by simp) fun dL DV ag Sl CU gL=> ?_
 have pU:∀ {aD:bP} {o:db},News ({}:bP) L aD ((dL,o)::Bm s.heap L)->∀c o,c≠L->s.heap.get? c=D o->aD.get? c=D o:=fun N c o aE e=>(N _ (.tail _ (Bn.mpr ⟨aE,e⟩))).1
 have hn:=pU CU _ _ (NM hm a6.aR a6.hd) a6.aR
 have gR:=pU CU _ _ (NM hm bl.aR bl.hd) bl.aR
 refine kat_kind (T:= .type "str") (fs:=[.str a dG,.str b cZ]) (.cons hn a6.aE a6.hd a6.ug (.cons gR bl.aE bl.hd bl.ug .nil)) (by simp) (fun v aH=> ?_) (by decide) ?_
 ·rcases dj.mp aH with e|aH
  ·rw[e];exact Cy rfl
  ·rw[dt.mp aH];exact Cy rfl
 show(kas_sort 2).kasWp _ _ _
 rw[abQ]
 show kas_ask X.prog X.w A.in1.in1 _ _ 1 0 _ _
 show bi _ _ (keyLt' _ (.ref fH) (.ref t1)) _ _ _
 refine kat_lt gR bl.hd hn a6.hd ?_
 rw[a6.hi,bl.hi]
 refine kat_cons (wpAny_eqBool_str ?_)
 rw[show decide (b=a)=aw from ek fun e=>cc e.symm]
 refine kat_no (oneLt_str ?_)
 have fin:∀ {out:I al} {tk:H},KasFin ({}:bP) L m dL DV out (fun s3=>Iz s L m out (.ref dL) s3) {s with heap:=ag,toks:=tk}:=fun{out tk}=>by
  refine KasFin.intro Sl CU (.head fun p ao=>hI (gL p ao)) fun ah c Sm CV=>⟨ah,tk,dL,rfl,rfl,pU CV,Sm.ns,⟨_,(CV _ (.head _)).1,rfl,c,rfl⟩, ?_⟩
  cases q:s.heap.get? dL with
  |none=>rfl
  |some o=>exact absurd (gL _ (Bn.mpr ⟨(CV _ (.head _)).2.1,q⟩)) (v7 _)
 by_cases z:b.cps.toList < a.cps.toList
 ·rw[show rD b a=ae from cW z,cW z]
  exact fin
 ·rw[show rD b a=aw from ek z,ek z]
  exact fin
theorem ahf(B:o8 X){x:aK}{i:H}{fF p zH pos:c3}{a:bG}{e:E}(ok:ai.ok=ae)(aA:ai.slots.lookup x=D i)(bR:(hS "sorted")∈ai.fD)(aI:f0 a=ae)(h0:bQ X P C n ai a e):
  hb X P C n ai (.Assign [.Name x fF] (.Call (.Name "sorted" p) [a] [] zH) pos) (.rz i e):= .intro fun J σ A U s en c v aM ag u ah=>by
 refine RV ?_ rfl
 rw[CA]
 refine b9 (Fo c bR B.sorted.1 B.sorted.2 (by decide) (qM (Ph:=fun _=>True) (first:=[]) (tB aI) sW (.cons h0 .nil) (so ag) c fun bm a2 xs r bN w=>⟨trivial,oa fun G bV=> ?_⟩))
 refine agS ah fun p q a b as av py ep eq cc nd=>bK.vl (P:=fun xs=>(bi (bv X.prog X.w) A (call (.builtin "sorted") xs []) _ b4 a2->G)->G) w (fun val w bV=> ?_) bV
 rw[py]at w
 obtain⟨l,aS,hg,aj,_,aH⟩:=w
 obtain⟨tN,_,aT,a9,Qy,_,aX,bE,bZ⟩:=aH
 refine MT ep a9 fun t1 dG jz k1 k6 gx f1 a6=>MT eq bE fun fH cZ pT dQ gE hF f2 bl=> ?_
 rw[hg]at bV
 rw[f1]at a9 aT
 rw[f2]at bE aX
 have ku:a2.heap.IsList l [.ref t1,.ref fH].toArray:=by
  have:aS.toList=[.ref t1,.ref fH]:=by rw[aT,aX,show _=[]from bZ]
  rw[<-this];exact aj
 obtain⟨m,hm,ju⟩:=bN.env.slots
 refine bV (e7 (agU ku a6 bl cc hm) (fun amF bC q=>oa fun G bV=> ?_) fun _ _ x=>x)
 obtain⟨aD,tk,dL,dP,eD,am,aZ,oj,dead⟩:=q
 rw[dP,eD]at bV
 have ew:en.locals∈ownOf en:= .head _
 have ns:=bN.env.td _ ew
 have st:∀ {v x},aU bm a2.heap v x->aU bm aD v x:=fun w=>w.d8 (s0 am) (oG ns)
 have ai8:aU bm aD u (.ref dL):=by
  rw[<-nd]
  cases z:rD b a with
  |true=>rw[z]at oj;exact⟨dL,_,rfl,oj,bN.store.fq dead,_,_,rfl,st bE,_,_,rfl,st a9,rfl⟩
  |false=>rw[z]at oj;exact⟨dL,_,rfl,oj,bN.store.fq dead,_,_,rfl,st a9,_,_,rfl,st bE,rfl⟩
 have ch:dX X n A bm {a2 with heap:=aD,toks:=tk} ai en J aM:=⟨bN.room,bN.store.kW (bN.env.fq _ ew) ns (bN.env.above _ ew) am,bN.env.locals hm aZ am fun y j bo=>(ju y j bo).to rfl (fun d hd o e=>am _ o (bN.env.zz (mem_of_lookup hd)) e) rfl st⟩
 have dq:Reach (ownOf en) bm a2 bm {a2 with heap:=aD,toks:=tk}:=⟨⟨aD,tk,rfl⟩,(BO (let⟨o,_,_,aR,_⟩:=aZ;⟨o,aR⟩) am).own (oG (.inl ew))⟩
 exact bV (tD ok aA ai8 ch fun dH gj fV=>⟨bm,trivial,(r.wide.trans dq).trans gj,fV⟩)
end
end
section
open PySem.SeqAt
section
variable {X:c0}{U bj:cu}{h aD:bP}{ai eR:cR}{en:e6}{J bt:Loc}{σ aM bS af:St}{P:c4}{C:Cl}{n:H}{A:ea}{s:bb}
theorem afF{tm tn:CmpOp}{cS b3:bG}{l:bG}{a b eU:E}{o p:n6}{pos:c3}(aR:tj o=tm)(dx:tj p=tn)(hm:lastMarks [tm,tn] [cS,b3]=aw)(aI:bQ X P C n ai l a)(ax:bQ X P C n ai cS b)(aE:bQ X P C n ai b3 eU):
  SB X P C n ai (.Compare l [tm,tn] [cS,b3] pos) (.jo o p a b eU):= .intro fun J σ A U s en c x aM ag y bS ah=>by
 rw[<-aR,<-dx]at hm ⊢
 exact⟨fun aN iw e=>akF (aI.run ag c fun bm a2 jF cS bN fu=>test_link (ax.run ah bN fun cC bC tJ b3 ch hE=>qN (lc c.room) aN ch.store (fu.step b3.step (by simp)) hE fun tk=>t4 ⟨bD e,cC,(cS.trans b3).trans Reach.toks,ch.store,trivial⟩)) hm,
  fun aN u fT b1 z ef iw e=>akF (aI.run ag c fun bm a2 jF cS bN fu=>test_link (ax.run ah bN fun cC bC tJ b3 ch hE=>qN (lc c.room) aN ch.store (fu.step b3.step (by simp)) hE fun tk=>t4
   (test_last (aE.run b1 (ch.next (Reach.toks (tk:=tk)) ch.store) fun fR dH Hk gj qP Ho=>qN (lc c.room) ef qP.store (aU.step (h:=bC.heap) gj.step (by simp) hE) Ho fun tk=>t4 ⟨bD e,fR,(((cS.trans b3).trans Reach.toks).trans gj).trans Reach.toks,qP.store,trivial⟩)))) hm⟩
structure y5 where
 nm:H->aK
 lC:H->aK
 m6:H->aK
 jW:H->aK
noncomputable def cR.has(ai:cR)(x:aK):au:=ai.fD.any fun y=>y==x
theorem cR.ZO{ai:cR}{x:aK}(h:ai.has x=ae):x∈ai.fD:=by
 unfold cR.has at h
 rw[mR]at h
 obtain⟨y,bo,e⟩:=h
 have:y=x:=by simpa using e
 exact this▸bo
noncomputable def cR.is(ai:cR)(x:aK)(i:H):au:=match ai.slots.lookup x with
 |some j=>j==i
 |none=>aw
theorem cR.abl{ai:cR}{x:aK}{i:H}(h:ai.is x i=ae):ai.slots.lookup x=D i:=by
 unfold cR.is at h
 split at h
 ·rename_i e;rw[e];simpa using h
 ·cases h
noncomputable def wM(ai:cR)(scope:kN)(x:aK)(i:H):cR:=
 {slots:=(x,i)::ai.slots.filter fun p=>scope.names.lookup p.1==D .free
  fD:=(scope.names.filter fun p=>p.2== .globalImplicit).map (·.1)}
noncomputable def Bd:I aK->au
 |[]=>ae
 |x::r=> !(r.any fun y=>y==x) && Bd r
theorem FU:∀ {l:I aK},Bd l=ae->l.Nodup
 |[],_=> .nil
 |x::r,h=>by
  simp only[Bd,yy,yA]at h
  refine hH.mpr ⟨fun m=> ?_,FU h.2⟩
  have:=QZ.mp h.1 x m
  simp at this
noncomputable def DF(ai:cR)(scope:kN)(x:aK)(i:H):au:=scope.kind== .function && Bd (scope.names.map (·.1)) && scope.names.lookup x==D .local && (scope.names.all fun y=>(!(y.2== .free)||ai.h3.any fun z=>z==y.1) && !(y.2== .cell)) && (wM ai scope x i).ok
theorem Ws{scope:kN}{x:aK}{i:H}(h:DF ai scope x i=ae):r1 ai scope x i (wM ai scope x i):=by
 simp only[DF,yy,ip,ke]at h
 obtain⟨⟨⟨⟨ag,ah⟩,aN⟩,b1⟩,ef⟩:=h
 refine⟨ag,FU ah,aN,fun y bo e=> ?_,fun y bo=> ?_,rfl,fun g bR=> ?_,rfl,ef⟩
 ·have:=(b1 y bo).1
  simp only[e,n2,yB,Ch,mR,ip]at this
  obtain⟨z,hz,rfl⟩:=this
  exact hz
 ·have:=(b1 y bo).2
  simpa using this
 ·obtain⟨p,ao,rfl⟩:=dk.mp bR
  obtain⟨aau,aav⟩:=HH.mp ao
  have:p.2= .globalImplicit:=by simpa using aav
  exact this▸xE (FU ah) (show(p.1,p.2)∈scope.names from aau)
structure Is(p:Prop)where
 b:au
 ok:b=ae->p
theorem acX{Q:Prop}(h:aw=ae):Q:=nomatch h
theorem zf{a b:au}(h:(a && b)=ae):a=ae:=(ei.mp h).1
theorem zg{a b:au}(h:(a && b)=ae):b=ae:=(ei.mp h).2
noncomputable def Is.no{p:Prop}:Is p:=⟨aw,acX⟩
class dz (M:Type)where
 d:M
noncomputable instance {p:Prop}:dz (Is p):=⟨.no⟩
noncomputable def Is.yes{p:Prop}(h:p):Is p:=⟨ae,fun _=>h⟩
noncomputable def Is.m{p q:Prop}(f:p->q)(a:Is p):Is q:=⟨a.b,fun h=>f (a.ok h)⟩
noncomputable def Is.ap{p q:Prop}(f:Is (p->q))(a:Is p):Is q:=⟨a.b && f.b,fun h=>f.ok (zg h) (a.ok (zf h))⟩
noncomputable def cN(b:au):Is (b=ae):=⟨b,id⟩
noncomputable def jr(b:au):Is (b=aw):=⟨!b,fun h=>(yA b).mp h⟩
noncomputable def fo(p:Prop)[oV p]:Is p:=⟨decide p,gy⟩
@[elab_as_elim] noncomputable def iF{α:Type}[kK α]{M:α->Type}[∀a,dz (M a)](x y:α)(k:M y):M x:=if h:x=y then h.symm▸k else dz.d
@[elab_as_elim] noncomputable def lP{α:Type}{M:I α->Type}[∀a,dz (M a)](l:I α)(k:(M [])):(M l):=match l with|[]=>k|_::_=>dz.d
@[elab_as_elim] noncomputable def xS{α:Type}{M:I α->Type}[∀a,dz (M a)](l:I α)(k:∀x r,(M (x::r))):(M l):=match l with|[]=>dz.d|x::r=>k x r
@[elab_as_elim] noncomputable def k8{α:Type}{M:I α->Type}[∀a,dz (M a)](l:I α)(k:∀x,(M [x])):(M l):=xS l fun x r=>lP r (k x)
@[elab_as_elim] noncomputable def xR{α:Type}{M:I α->Type}[∀a,dz (M a)](l:I α)(k:∀x y,(M [x,y])):(M l):=xS l fun x r=>k8 r (k x)
@[elab_as_elim] noncomputable def Bi{α:Type}{M:aJ α->Type}[∀a,dz (M a)](o:aJ α)(k:(M aa)):(M o):=match o with|none=>k|some _=>dz.d
@[elab_as_elim] noncomputable def Gb{α:Type}{M:aJ α->Type}[∀a,dz (M a)](o:aJ α)(k:∀x,(M (D x))):(M o):=match o with|none=>dz.d|some x=>k x
noncomputable def ze{R:bG->E->Prop}(f:∀a e,Is (R a e)):∀as es,Is (ir R as es)
 |[],es=>lP es (.yes .nil)
 |a::as,es=>xS es fun e es=>(Is.m .cons (f a e)).ap (ze f as es)
section
set_option backward.match.sparseCases false
variable {M:bG->Type}[∀a,dz (M a)](a:bG)
@[elab_as_elim] noncomputable def xT(k:∀c j p,(M (.Constant c j p))):(M a):=match a with|.Constant c j p=>k c j p|_=>dz.d
@[elab_as_elim] noncomputable def lQ(k:∀x p,(M (.Name x p))):(M a):=match a with|.Name x p=>k x p|_=>dz.d
@[elab_as_elim] noncomputable def N1(k:∀as j p,(M (.Tuple as j p))):(M a):=match a with|.Tuple as j p=>k as j p|_=>dz.d
@[elab_as_elim] noncomputable def NZ(k:∀as p,(M (.List as p))):(M a):=match a with|.List as p=>k as p|_=>dz.d
@[elab_as_elim] noncomputable def adR(k:∀ks vs p,(M (.Dict ks vs p))):(M a):=match a with|.Dict ks vs p=>k ks vs p|_=>dz.d
@[elab_as_elim] noncomputable def adO(k:∀l o r p,(M (.BinOp l o r p))):(M a):=match a with|.BinOp l o r p=>k l o r p|_=>dz.d
@[elab_as_elim] noncomputable def N2(k:∀o x p,(M (.UnaryOp o x p))):(M a):=match a with|.UnaryOp o x p=>k o x p|_=>dz.d
@[elab_as_elim] noncomputable def NW(k:∀l os lS p,(M (.Compare l os lS p))):(M a):=match a with|.Compare l os lS p=>k l os lS p|_=>dz.d
@[elab_as_elim] noncomputable def NV(k:∀o as p,(M (.BoolOp o as p))):(M a):=match a with|.BoolOp o as p=>k o as p|_=>dz.d
@[elab_as_elim] noncomputable def adU(k:∀t x y p,(M (.IfExp t x y p))):(M a):=match a with|.IfExp t x y p=>k t x y p|_=>dz.d
@[elab_as_elim] noncomputable def Bh(k:∀o m p,(M (.Attribute o m p))):(M a):=match a with|.Attribute o m p=>k o m p|_=>dz.d
@[elab_as_elim] noncomputable def ti(k:∀o i p,(M (.Subscript o i p))):(M a):=match a with|.Subscript o i p=>k o i p|_=>dz.d
@[elab_as_elim] noncomputable def N0(k:∀l u s p,(M (.Slice l u s p))):(M a):=match a with|.Slice l u s p=>k l u s p|_=>dz.d
@[elab_as_elim] noncomputable def F7(k:∀f as fp p,(M (.Call f as fp p))):(M a):=match a with|.Call f as fp p=>k f as fp p|_=>dz.d
@[elab_as_elim] noncomputable def F8(k:∀e pC g5 p,(M (.ListComp e pC g5 p))):(M a):=match a with|.ListComp e pC g5 p=>k e pC g5 p|_=>dz.d
@[elab_as_elim] noncomputable def NY{M:tY->Type}[∀a,dz (M a)](c:tY)(k:∀i,(M (.int i))):(M c):=match c with|.int i=>k i|_=>dz.d
@[elab_as_elim] noncomputable def onStr{M:tY->Type}[∀a,dz (M a)](c:tY)(k:∀i,(M (.str i))):(M c):=match c with|.str i=>k i|_=>dz.d
@[elab_as_elim] noncomputable def adP{M:tY->Type}[∀a,dz (M a)](c:tY)(k:∀i,(M (.bool i))):(M c):=match c with|.bool i=>k i|_=>dz.d
@[elab_as_elim] noncomputable def adW{M:tY->Type}[∀a,dz (M a)](c:tY)(k:(M .none)):(M c):=match c with|.none=>k|_=>dz.d
end
@[elab_as_elim] noncomputable def F9{M:bG->Type}[∀a,dz (M a)](a:bG)(k:∀x p as q,(M (.Call (.Name x p) as [] q))):(M a):=F7 a fun f as fp q=>lQ f fun x p=>lP fp (k x p as q)
@[elab_as_elim] noncomputable def th{M:bG->Type}[∀a,dz (M a)](a:bG)(k:∀o m p as q,M (.Call (.Attribute o m p) as [] q)):M a:=F7 a fun f as fp q=>Bh f fun o m p=>lP fp (k o m p as q)
@[elab_as_elim] noncomputable def Ga{M:akO->Type}[∀a,dz (M a)](g:akO)(k:∀x p it fs,M ⟨.Name x p,it,fs,0⟩):M g:=match g with|⟨t,it,fs,y⟩=>lQ t fun x p=>iF y 0 (k x p it fs)
noncomputable def rb(ai:cR)(x:aK)(i:H):Is (ai.slots.lookup x=D i):=⟨ai.is x i,cR.abl⟩
noncomputable def nr(ai:cR)(x:aK):Is (x∈ai.fD):=⟨ai.has x,cR.ZO⟩
noncomputable def rd(x y:aK):Is (x=y):=⟨x==y,ip.mp⟩
noncomputable def si(x:aK):Is ((x==("__debug__" :aK))=aw):=jr _
noncomputable def Fb(ai:cR)(g5:kN)(x:aK)(i:H):Is (r1 ai g5 x i (wM ai g5 x i)):=⟨DF ai g5 x i,Ws⟩
@[elab_as_elim] noncomputable def tg{M:bG->Type}[∀a,dz (M a)](nm:aK)(a:bG)(k:∀p b q,M (.Call (.Name nm p) [b] [] q)):M a:=F9 a fun x p as q=>k8 as fun b=>iF x nm (k p b q)
end
end
section
open PySem.SeqAt
section
variable {X:c0}{ai eR:cR}{P:c4}{C:Cl}{n:H}{T:y5}
structure Good(X:c0)(P:c4)(T:y5):Prop where
 nm:T.nm=X.nm
 lC:T.lC=X.lC
 m6:T.m6=X.m6
 jW:T.jW=X.jW
 names:wm X P
 vr:pd X P
 iW:o8 X
 WS:CN X P
 meths:∀c m f,P.b6 c m=D f->keepIn X.K (.ref (X.jr f))=ae
noncomputable def ub(X:c0)(P:c4)(C:Cl)(n:H)(ai:cR)(a:bG)(e:E):Prop:=bQ X P C n ai a e/\SB X P C n ai a e
theorem agB{a:bG}:ub X P C n ai a .bad:=⟨(fun J σ v af h=>nomatch (show aa=D _ from h)),(fun J σ v af b h=>nomatch (show aa=D _ from h))⟩
theorem agC{a:bG}{e:E}(h:bQ X P C n ai a e)(ao:Gk a=ae):ub X P C n ai a e:=⟨h,afJ ao h⟩
noncomputable def Is.p{a:bG}{e:E}(i:Is (bQ X P C n ai a e)):Is (ub X P C n ai a e):=(i.m agC).ap (cN _)
theorem zd{R S:bG->E->Prop}(f:∀ {a e},R a e->S a e){as:I bG}{es:I E}(h:ir R as es):ir S as es:=by
 induction h with
 |nil=>exact .nil
 |cons a _ bh=>exact .cons (f a) bh
theorem qE{α:Type}{f g:H->α}(h:f=g){i:H}{x:α}(e:f i=x):g i=x:=h▸e
section
variable (G:Good X P T)(dA:kh X C n)(a5:n5 P C)(f:∀ai a e,Is (ub X P C n ai a e))(ai:cR)
noncomputable def e1(a e):Is (bQ X P C n ai a e):=(f ai a e).m QL
noncomputable def KI(a e):Is (SB X P C n ai a e):=(f ai a e).m QM
noncomputable def uB(as es):Is (ir (bQ X P C n ai) as es):=ze (e1 f ai) as es
noncomputable def KL:∀(o:aJ bG) (e:aJ E),Is (wo X P C n ai o e)
 |o,aa=>Bi o (.yes trivial)
 |o,D e=>Gb o fun a=>e1 f ai a e
noncomputable def Fd(it:bG)(e:E):∀r,Is (t9 X P C n ai it r e)
 |false=>(e1 f ai it e).m abn
 |true=>tg (hS "range") it fun p b q=>(((e1 f ai b e).m fun h ag ah=>abm G.iW ag ah h).ap (nr ai _)).ap (cN _)
noncomputable def Qf(fs:I bG)(elt:bG)(x:E):∀c,Is (TurnOk X P C n ai fs elt c x)
 |none=>lP fs ((e1 f ai elt x).m fun h=>⟨h,.inl ⟨rfl,rfl⟩⟩)
 |some c=>k8 fs fun t=>((e1 f ai elt x).m fun h ah=>⟨h,.inr ⟨t,c,rfl,rfl,ah⟩⟩).ap (KI f ai t c)
noncomputable def aci(a:bG):∀v,Is (bQ X P C n ai a (.lit v))
 |.int i=>xT a fun c k p=>NY c fun j=>iF j i (.yes afZ)
 |.str i=>xT a fun c k p=>onStr c fun j=>iF j i (.yes agf)
 |.bool i=>xT a fun c k p=>adP c fun j=>iF j i (.yes afQ)
 |.none=>xT a fun c k p=>adW c (.yes af9)
 |.ab _=> .no
 |.lst _=> .no
 |.obj _=> .no
noncomputable def Wh(a:bG):∀e,Is (ub X P C n ai a e)
 |.bad=> .yes agB
 |.lit v=>(aci ai a v).p
 |.aq i=>lQ a fun x p=>(((rb ai x i).m af2).ap (si x)).p
 |.aV g=>lQ a fun x p=>((((nr ai x).m (afY G.names)).ap ((rd _ _).m (qE G.jW))).ap (si x)).p
 |.ab es=>N1 a fun as k p=>((((uB f ai as es).m fun h ag ah=>agh (BH h ag) ah).ap (cN _)).ap (fo _)).p
 |.lst es=>NZ a fun as p=>((((uB f ai as es).m fun h ag ah=>af3 (BH h ag) ah).ap (cN _)).ap (fo _)).p
 |.hC es=>NZ a fun as p=>((((uB f ai as es).m af8).ap (cN _)).ap (fo _)).p
 |.iD _=>adR a fun ks vs p=>lP ks (lP vs (.p (.yes af7)))
 |.bin o x y=>adO a fun l op r p=>((((fo _).m afP).ap (e1 f ai l x)).ap (e1 f ai r y)).p
 |.neg x=>N2 a fun o b p=>iF o .USub ((e1 f ai b x).m af5).p
 |.not x=>N2 a fun o b p=>iF o .Not ((f ai b x).m fun h=>⟨aga h.1,afH h.2⟩)
 |.ay o x y=>NW a fun l os lS p=>k8 os fun op=>k8 lS fun r=>((((fo _).m fun h ag ah aN=>⟨afS h ag ah aN,afE h ag ah aN⟩).ap (jr _)).ap (e1 f ai l x)).ap (e1 f ai r y)
 |.jo o p x y z=>NW a fun l os lS _=>xR os fun jz pT=>xR lS fun dR dq=>((((((fo _).m fun h ag ah aN b1 ef=>⟨VF (o:=o) (p:=p) h ag ah aN b1 ef,afF h ag ah aN b1 ef⟩).ap (fo _)).ap (jr _)).ap (e1 f ai l x)).ap (e1 f ai dR y)).ap (e1 f ai dq z)
 |.and es=>NV a fun o as p=>iF o .And ((ze (f ai) as es).m fun h=>⟨afL (zd QL h),afD (zd QM h)⟩)
 |.or es=>NV a fun o as p=>iF o .Or ((ze (f ai) as es).m fun h=>⟨agb (zd QL h),afI (zd QM h)⟩)
 |.ite c x y=>adU a fun t u v p=>(((f ai t c).m fun h ag ah=>⟨af0 h.2 ag.1 ah.1,afG h.2 ag.2 ah.2⟩).ap (f ai u x)).ap (f ai v y)
 |.attr x m=>Bh a fun o nm p=>((((cN _).m afO).ap ((rd _ _).m (qE G.nm))).ap (e1 f ai o x)).p
 |.slice x lo hi=>ti a fun o i p=>N0 i fun l u s q=>Bi s ((((e1 f ai o x).m agd).ap (KL f ai l lo)).ap (KL f ai u hi)).p
 |.sub x y=>ti a fun o i p=>((((cN _).m agg).ap (e1 f ai o x)).ap (e1 f ai i y)).p
 |.pB g k z=>th a fun o m p as q=>lQ o fun x _=>iF m (hS "get") (xR as fun b c=>(((((((((nr ai x).m (afX G.WS)).ap ((rd _ _).m (qE G.jW))).ap (si x)).ap (cN _)).ap (cN _)).ap (cN _)).ap (e1 f ai b k)).ap (e1 f ai c z)).p)
 |.call g es=>F9 a fun x p as q=>(((((((nr ai x).m (afR G.names dA a5)).ap ((rd _ _).m (qE G.lC))).ap (fo _)).ap (si x)).ap (cN _)).ap (uB f ai as es)).p
 |.new g es=>F9 a fun x p as q=>((((((nr ai x).m (af6 G.names G.vr dA)).ap ((rd _ _).m (qE G.m6))).ap (si x)).ap (cN _)).ap (uB f ai as es)).p
 |.b6 x m es=>th a fun o nm p as q=>((((((((cN _).m (af4 G.vr dA G.meths)).ap (cN _)).ap (cN _)).ap (fo _)).ap ((rd _ _).m (qE G.nm))).ap (e1 f ai o x)).ap (uB f ai as es)).p
 |.len x=>tg (hS "len") a fun p b q=>((((nr ai _).m (af1 G.iW)).ap (cN _)).ap (e1 f ai b x)).p
 |.tuple x=>tg (hS "tuple") a fun p b q=>((((nr ai _).m (agi G.iW)).ap (cN _)).ap (e1 f ai b x)).p
 |.sorted x=>tg (hS "sorted") a fun p b q=>((((nr ai _).m (age G.iW)).ap (cN _)).ap (e1 f ai b x)).p
 |.all x=>tg (hS "all") a fun p b q=>((((nr ai _).m (afK G.iW)).ap (cN _)).ap (e1 f ai b x)).p
 |.any x=>tg (hS "any") a fun p b q=>((((nr ai _).m (afM G.iW)).ap (cN _)).ap (e1 f ai b x)).p
 |.append o x=>th a fun y m p as q=>iF m (hS "append") (k8 as fun b=>((((((cN _).m afN).ap (cN _)).ap (cN _)).ap (e1 f ai y o)).ap (e1 f ai b x)).p)
 |.extend o x=>th a fun y m p as q=>iF m (hS "extend") (k8 as fun b=>((((((cN _).m afU).ap (cN _)).ap (cN _)).ap (e1 f ai y o)).ap (e1 f ai b x)).p)
 |.pop o=>th a fun y m p as q=>iF m (hS "pop") (lP as ((((cN _).m agc).ap (cN _)).ap (e1 f ai y o)).p)
 |.qW o k=>th a fun y m p as q=>iF m (hS "get") (k8 as fun b=>((((((cN _).m afV).ap (cN _)).ap (cN _)).ap (e1 f ai y o)).ap (e1 f ai b k)).p)
 |.qX o k d=>th a fun y m p as q=>iF m (hS "get") (xR as fun b c=>((((((((cN _).m afW).ap (cN _)).ap (cN _)).ap (cN _)).ap (e1 f ai y o)).ap (e1 f ai b k)).ap (e1 f ai c d)).p)
 |.m8 i j=>F8 a fun elt pC g5 p=>k8 pC fun g=>Ga g fun x px it fs=>lQ it fun t _=>lP fs (ti elt fun u w _=>ti u fun eF i3 _=>lQ eF fun eF _=>iF eF t (lQ i3 fun i3 _=>iF i3 x (xT w fun c _ _=>NY c fun k=>iF k (j:O) ((((((Fb ai g5 x 1000000).m afT).ap (rb ai t i)).ap (fo _)).ap (fo _)).ap (si t)|>.ap (si x)).p)))
 |.comp x i r it c=>F8 a fun elt pC g5 p=>k8 pC fun g=>Ga g fun y aeL ox fs=>(((((Fb ai g5 y i).m O2).ap (cN _)).ap (Qf f (wM ai g5 y i) fs elt x c)).ap (Fd G f ai ox it r)).p
end
noncomputable def uj(G:Good X P T)(dA:kh X C n)(a5:n5 P C):H->∀ai a e,Is (ub X P C n ai a e)
 |0,_,_,_=> .no
 |d+1,ai,a,e=>Wh G dA a5 (uj G dA a5 d) ai a e
end
end
section
open PySem.SeqAt
section
variable {X:c0}{ai eR:cR}{P:c4}{C:Cl}{n:H}{T:y5}
section
set_option backward.match.sparseCases false
variable {M:gV->Type}[∀a,dz (M a)](a:gV)
@[elab_as_elim] noncomputable def adM(k:∀ts v p,M (.Assign ts v p)):M a:=match a with|.Assign ts v p=>k ts v p|_=>dz.d
@[elab_as_elim] noncomputable def adN(k:∀t o v p,M (.AugAssign t o v p)):M a:=match a with|.AugAssign t o v p=>k t o v p|_=>dz.d
@[elab_as_elim] noncomputable def adX(k:∀v p,M (.Return v p)):M a:=match a with|.Return v p=>k v p|_=>dz.d
@[elab_as_elim] noncomputable def adS(k:∀v p,M (.Expr v p)):M a:=match a with|.Expr v p=>k v p|_=>dz.d
@[elab_as_elim] noncomputable def adV(k:∀t x y p,M (.If t x y p)):M a:=match a with|.If t x y p=>k t x y p|_=>dz.d
@[elab_as_elim] noncomputable def adT(k:∀t i x y p,M (.For t i x y p)):M a:=match a with|.For t i x y p=>k t i x y p|_=>dz.d
@[elab_as_elim] noncomputable def adY(k:∀t x y p,M (.While t x y p)):M a:=match a with|.While t x y p=>k t x y p|_=>dz.d
@[elab_as_elim] noncomputable def NX(k:∀t p,M (.Delete t p)):M a:=match a with|.Delete t p=>k t p|_=>dz.d
@[elab_as_elim] noncomputable def adQ(k:∀p,M (.Continue p)):M a:=match a with|.Continue p=>k p|_=>dz.d
end
@[elab_as_elim] noncomputable def xU{M:gV->Type}[∀a,dz (M a)](a:gV)(k:∀t v p,M (.Assign [t] v p)):M a:=adM a fun ts v p=>k8 ts fun t=>k t v p
section
variable (G:Good X P T)(dA:kh X C n)(a5:n5 P C)(d:H)(ok:ai.ok=ae)(f:∀a e,Is (hb X P C n ai a e))
noncomputable def jV(ai a e):Is (bQ X P C n ai a e):=e1 (uj G dA a5 d) ai a e
noncomputable def K6(ai a e):Is (SB X P C n ai a e):=KI (uj G dA a5 d) ai a e
noncomputable def uW:∀as es,Is (lw X P C n ai as es)
 |[],es=>lP es (.yes ahi)
 |a::as,es=>xS es fun e es=>((f a e).m ahh).ap (uW as es)
noncomputable def aex(x:aK)(i:H)(q:c3)(v:bG)(p:c3)(e:E):Is (hb X P C n ai (.Assign [.Name x q] v p) (.set i e)):=(((rb ai x i).m (aha ok)).ap (cN _)).ap (jV G dA a5 d ai v e)
noncomputable def agA(x:aK)(i:H)(q:c3)(v:bG)(p:c3):∀e,Is (hb X P C n ai (.Assign [.Name x q] v p) (.set i e))
 |.comp jH j r it c=>F8 v fun elt pC g5 p=>k8 pC fun g=>Ga g fun y aeL ox fs=>(((((rb ai x i).m (ahd ok)).ap (Fb ai g5 y j)).ap (cN _)).ap (Qf (uj G dA a5 d) (wM ai g5 y j) fs elt jH c)).ap (Fd G (uj G dA a5 d) ai ox it r)
 |e=>aex G dA a5 d ok x i q v p e
noncomputable def Ur:∀p op,Is ((p,op)=(mW.add,am5)\/(p,op)=(mW.sub,am6))
 |.add,op=>iF op .Add (.yes (.inl rfl))
 |.sub,op=>iF op .Sub (.yes (.inr rfl))
 |.fdiv,_|.mod,_|.pow,_|.band,_|.bor,_=> .no
noncomputable def Wi(a:gV):∀b,Is (hb X P C n ai a b)
 |.bad=> .yes ag2
 |.set i e=>xU a fun t v p=>lQ t fun x q=>agA G dA a5 d ok x i q v p e
 |.rz i e=>xU a fun t v p=>lQ t fun x q=>tg (hS "sorted") v fun p b q=>((((rb ai x i).m (ahf G.iW ok)).ap (nr ai _)).ap (cN _)).ap (jV G dA a5 d ai b e)
 |.mN i j e=>xU a fun t v p=>N1 t fun ts k p=>xR ts fun u w=>lQ u fun x p=>lQ w fun y q=>F7 v fun g as fp r=>(((rb ai x i).m (ahb ok)).ap (rb ai y j)).ap (jV G dA a5 d ai (.Call g as fp r) e)
 |.cT o m e=>xU a fun t v p=>Bh t fun y nm q=>((((cN _).m (ahc G.vr)).ap ((rd _ _).m (qE G.nm))).ap (jV G dA a5 d ai y o)).ap (jV G dA a5 d ai v e)
 |.fG o i e=>xU a fun t v p=>ti t fun y z q=>((((cN _).m ahe).ap (jV G dA a5 d ai y o)).ap (jV G dA a5 d ai z i)).ap (jV G dA a5 d ai v e)
 |.n7 o m p e=>adN a fun t op v _=>Bh t fun y nm q=>((((Ur p op).m (ag1 G.vr)).ap ((rd _ _).m (qE G.nm))).ap (jV G dA a5 d ai y o)).ap (jV G dA a5 d ai v e)
 |.ret e=>adX a fun v p=>Gb v fun v=>(jV G dA a5 d ai v e).m ag9
 |.expr e=>adS a fun v p=>((cN _).m ag6).ap (jV G dA a5 d ai v e)
 |.iff c x y=>adV a fun t u v p=>(((K6 G dA a5 d ai t c).m ag8).ap (uW f u x)).ap (uW f v y)
 |.for i r it b=>adT a fun t ox u v p=>lQ t fun x q=>lP v ((((((rb ai x i).m (ag7 ok)).ap (cN _))).ap (Fd G (uj G dA a5 d) ai ox it r)).ap (uW f u b))
 |.while k c b=>adY a fun t u v p=>lP v (((K6 G dA a5 d ai t c).m ahg).ap (uW f u b))
 |.qQ o lo=>NX a fun ts p=>k8 ts fun t=>ti t fun y z q=>N0 z fun l u s r=>Gb l fun l=>Bi u (Bi s (((jV G dA a5 d ai y o).m ag5).ap (jV G dA a5 d ai l lo)))
 |.mo o i=>NX a fun ts p=>k8 ts fun t=>ti t fun y z q=>((jV G dA a5 d ai y o).m ag4).ap (jV G dA a5 d ai z i)
 |.cont=>adQ a fun p=> .yes ag3
end
noncomputable def JL(G:Good X P T)(dA:kh X C n)(a5:n5 P C)(d:H)(ok:ai.ok=ae):H->∀a e,Is (hb X P C n ai a e)
 |0,_,_=> .no
 |k+1,a,e=>Wi G dA a5 d ok (JL G dA a5 d ok k) a e
end
end
noncomputable abbrev aL:E:= .aq 0
noncomputable abbrev a3:E:= .aq 1
noncomputable abbrev bp:E:= .aq 2
noncomputable abbrev b0:E:= .aq 3
noncomputable abbrev cJ:E:= .aq 4
noncomputable abbrev c8:E:= .aq 5
noncomputable abbrev hs:E:= .aq 6
noncomputable abbrev i4:E:= .aq 7
noncomputable abbrev oU:E:= .aq 8
noncomputable abbrev qc:E:= .aq 9
noncomputable abbrev vW:E:= .aq 10
noncomputable abbrev qb:E:= .aq 11
noncomputable abbrev mQ:E:= .aq 12
noncomputable abbrev rQ:E:= .aq 13
noncomputable abbrev vX:E:= .aq 14
noncomputable abbrev yw:E:= .aq 15
noncomputable abbrev Ce:E:= .aq 16
noncomputable abbrev yx:E:= .aq 17
noncomputable abbrev vY:E:= .aq 18
noncomputable abbrev vZ:E:= .aq 19
noncomputable abbrev Cf:E:= .aq 20
noncomputable abbrev Hq:E:= .aq 21
noncomputable abbrev ajy:E:= .aq 22
noncomputable abbrev ajz:E:= .aq 23
noncomputable abbrev QF:E:= .aq 24
noncomputable abbrev ajA:E:= .aq 25
noncomputable abbrev QG:E:= .aq 26
noncomputable abbrev QH:E:= .aq 27
noncomputable abbrev ajB:E:= .aq 28
noncomputable abbrev QI:E:= .aq 29
noncomputable abbrev bq:E:= .lit (.int 0)
noncomputable abbrev bI:E:= .lit (.int 1)
noncomputable abbrev d9:E:= .lit (.int 2)
noncomputable abbrev f9:E:= .lit (.int 3)
noncomputable abbrev iJ:E:= .lit (.int 4)
noncomputable abbrev jI:E:= .lit (.int 5)
noncomputable abbrev kb:E:= .lit (.int 6)
noncomputable abbrev l1:E:= .lit (.int 7)
noncomputable abbrev tP:E:= .lit (.int 8)
noncomputable abbrev QE:E:= .lit (.int 9)
noncomputable abbrev QC:E:= .lit (.int 11)
noncomputable abbrev QD:E:= .lit (.int 13)
noncomputable abbrev Hp:E:= .lit (.int 14)
noncomputable abbrev tO:E:= .lit (.int 15)
noncomputable abbrev Cc:E:= .lit (.int 16)
noncomputable abbrev Cd:E:= .lit (.int 17)
noncomputable abbrev ajn:E:= .lit (.int 18)
noncomputable abbrev ajo:E:= .lit (.int 20)
noncomputable abbrev ajp:E:= .lit (.int 21)
noncomputable abbrev ajq:E:= .lit (.int 24)
noncomputable abbrev ajr:E:= .lit (.int 29)
noncomputable abbrev ajs:E:= .lit (.int 31)
noncomputable abbrev ajt:E:= .lit (.int 32)
noncomputable abbrev aju:E:= .lit (.int 33)
noncomputable abbrev ajv:E:= .lit (.int 34)
noncomputable abbrev ajw:E:= .lit (.int 54)
noncomputable abbrev ajx:E:= .lit (.int 96)
noncomputable def Jl:I S:=[
  .cT aL 0 (.hC [])]
noncomputable def z1:b7:= {dflt:=[],bU:=1,cm:=1,body:=Jl}
noncomputable def d7:I S:=[
  .expr (.append (.attr aL 0) (.ab [a3,bp]))]
noncomputable def f1:b7:= {dflt:=[],bU:=3,cm:=3,body:=d7}
noncomputable def dM:I S:=[
  .cT aL 0 (.hC []),
  .cT aL 1 (.iD .t),
  .cT aL 2 (.hC [.lit (.none)]),
  .cT aL 3 (.hC []),
  .cT aL 4 (.hC []),
  .cT aL 5 (.hC []),
  .cT aL 6 (.iD .i),
  .cT aL 7 (.iD .i),
  .cT aL 8 bq,
  .cT aL 9 bq,
  .for 1 aw (.aV 0) [.expr (.b6 aL 10 [a3])]]
noncomputable def f2:b7:= {dflt:=[],bU:=1,cm:=2,body:=dM}
noncomputable def pk:I S:=[
  .iff (.ay .mem a3 (.attr aL 1)) [.ret (.sub (.attr aL 1) a3)] [],
  .set 2 (.len (.attr aL 0)),
  .expr (.append (.attr aL 0) a3),
  .fG (.attr aL 1) a3 bp,
  .ret bp]
noncomputable def kp:b7:= {dflt:=[],bU:=2,cm:=3,body:=pk}
noncomputable def kl:I S:=[
  .cT aL 11 a3,
  .cT aL 12 bp,
  .cT aL 13 b0,
  .cT aL 14 (.ab []),
  .cT aL 15 (.neg bI),
  .cT aL 16 (.ab []),
  .cT aL 17 (.neg bI),
  .cT aL 18 bq,
  .cT aL 19 (.lit (.bool aw)),
  .cT aL 20 (.hC []),
  .cT aL 21 (.hC []),
  .cT aL 22 bq,
  .cT aL 23 bq,
  .cT aL 24 (.lit (.str ⟨#[]⟩)),
  .cT aL 25 bq]
noncomputable def f4:b7:= {dflt:=[],bU:=4,cm:=4,body:=kl}
noncomputable def zn:I S:=[
  .ret (.b6 aL 10 [.ab [.aV 1,a3,bp]])]
noncomputable def z2:b7:= {dflt:=[.int 0],bU:=3,cm:=3,body:=zn}
noncomputable def n8:I S:=[
  .set 4 (.len (.attr aL 3)),
  .expr (.append (.attr aL 3) bp),
  .expr (.append (.attr aL 4) b0),
  .expr (.append (.attr aL 5) a3),
  .ret (.b6 aL 10 [.ab [.aV 2,cJ]])]
noncomputable def D6:b7:= {dflt:=[.int (-1),.int (-1)],bU:=4,cm:=5,body:=n8}
noncomputable def Do:I S:=[
  .set 3 (.new 2 [.len (.attr aL 2),a3,bp]),
  .expr (.append (.attr aL 2) b0),
  .ret b0]
noncomputable def YA:b7:= {dflt:=[],bU:=3,cm:=4,body:=Do}
noncomputable def Jn:I S:=[
  .iff (.ay .eq a3 (.aV 3)) [.ret (.ab [])] [],
  .set 2 (.sub (.attr aL 0) a3),
  .iff (.ay .eq (.sub bp bq) (.aV 4)) [.ret (.sub bp bI)] [],
  .ret (.ab [a3])]
noncomputable def YL:b7:= {dflt:=[],bU:=2,cm:=3,body:=Jn}
noncomputable def Vr:I S:=[
  .set 1 (.sub aL bq),
  .iff (.or [.ay .eq a3 (.aV 1),.ay .eq a3 (.aV 5)]) [.ret (.aV 6)] [],
  .iff (.ay .eq a3 (.aV 7)) [.ret (.aV 8)] [],
  .iff (.ay .eq a3 (.aV 9)) [.ret (.ite .bad (.aV 6) (.aV 8))] [],
  .ret (.neg bI)]
noncomputable def YU:b7:= {dflt:=[],bU:=1,cm:=2,body:=Vr}
noncomputable def pj:I S:=[
  .set 2 (.sub (.attr aL 0) a3),
  .iff (.and [.ay .mem (.sub bp bq) (.aV 10),.ay .eq (.sub bp (.neg bI)) bI]) [.ret (.qX (.attr aL 1) (.bin .add (.slice bp aa (D (.neg bI))) (.ab [bq])) (.neg bI))] [],
  .ret (.neg bI)]
noncomputable def XA:b7:= {dflt:=[],bU:=2,cm:=3,body:=pj}
noncomputable def Dm:I S:=[
  .iff (.and [.or [.ay .mem (.aV 11) aL,.ay .mem (.aV 12) aL],.or [.ay .mem (.aV 13) aL,.ay .mem (.aV 14) aL]]) [.fG aL (.aV 11) bI,.fG aL (.aV 13) bI] []]
noncomputable def XB:b7:= {dflt:=[],bU:=1,cm:=1,body:=Dm}
noncomputable def wB:I S:=[
  .iff (.ay .mem (.call 10 [aL,bp]) a3) [.ret (.lit (.bool aw))] [],
  .ret (.ay .kB (.call 9 [.sub (.attr aL 0) bp]) a3)]
noncomputable def XC:b7:= {dflt:=[],bU:=3,cm:=3,body:=wB}
noncomputable def zm:I S:=[
  .for 1 aw (.ab [.aV 15,.aV 16,.aV 17]) [.iff (.ay .mem a3 aL) [.ret a3] []],
  .ret (.neg bI)]
noncomputable def XD:b7:= {dflt:=[],bU:=1,cm:=2,body:=zm}
noncomputable def Dn:I S:=[
  .set 2 (.iD .i),
  .for 3 aw a3 [.for 4 aw (.call 8 [aL,b0]) [.fG bp cJ bI]],
  .set 5 (.call 13 [bp]),
  .iff (.ay .ge c8 bq) [.ret c8] [],
  .expr (.call 11 [bp]),
  .set 6 (.comp i4 7 aw (.sorted bp) (D (.call 12 [aL,bp,i4]))),
  .iff (.not hs) [.ret (.aV 3)] [],
  .iff (.ay .eq (.len hs) bI) [.ret (.sub hs bq)] [],
  .iff (.ay .gt (.len hs) (.aV 18)) [.bad] [],
  .ret (.b6 aL 10 [.ab [.aV 4,.tuple hs]])]
noncomputable def XE:b7:= {dflt:=[],bU:=2,cm:=8,body:=Dn}
noncomputable def qF:I S:=[
  .ret (.call 14 [aL,.ab [a3,.aV 19]])]
noncomputable def XF:b7:= {dflt:=[],bU:=2,cm:=2,body:=qF}
noncomputable def Ut:I S:=[
  .ret (.ay .mem (.sub (.sub (.attr aL 0) a3) bq) (.aV 20))]
noncomputable def XG:b7:= {dflt:=[],bU:=2,cm:=2,body:=Ut}
noncomputable def Uu:I S:=[
  .set 2 (.sub (.attr aL 0) a3),
  .ret (.and [.ay .mem (.sub bp bq) (.aV 10),.ay .eq (.sub bp (.neg bI)) bI])]
noncomputable def XH:b7:= {dflt:=[],bU:=2,cm:=3,body:=Uu}
noncomputable def Uv:I S:=[
  .iff (.call 17 [aL,a3]) [.ret (.b6 aL 10 [.bin .add (.slice (.sub (.attr aL 0) a3) aa (D (.neg bI))) (.ab [bq])])] [],
  .ret a3]
noncomputable def XI:b7:= {dflt:=[],bU:=2,cm:=2,body:=Uv}
noncomputable def Uw:I S:=[
  .set 2 (.sub (.attr aL 0) a3),
  .set 3 (.sub bp bq),
  .iff (.ay .eq b0 (.aV 21)) [.ret (.pB 22 a3 (.aV 23))] [],
  .iff (.ay .eq b0 (.aV 24)) [.ret (.aV 25)] [],
  .iff (.ay .mem b0 (.aV 26)) [.ret (.aV 27)] [],
  .iff (.ay .eq b0 (.aV 4)) [.ret .bad] [],
  .iff (.ay .eq b0 (.aV 28)) [.ret .bad] [],
  .set 4 (.call 9 [bp]),
  .iff (.ay .lt cJ bq) [.ret (.aV 23)] [],
  .ret (.ite (.ay .eq cJ (.aV 6)) (.aV 29) (.aV 30))]
noncomputable def XJ:b7:= {dflt:=[],bU:=2,cm:=5,body:=Uw}
noncomputable def Ux:I S:=[
  .ret (.or [.ay .eq aL (.aV 31),.ay .eq aL (.aV 32),.ay .eq aL (.aV 33)])]
noncomputable def XK:b7:= {dflt:=[],bU:=1,cm:=1,body:=Ux}
noncomputable def Uy:I S:=[
  .for 3 aw (.call 8 [aL,a3]) [.set 4 (.sub (.attr aL 0) b0),.iff (.or [.ay .eq b0 (.aV 17),.ay .eq b0 (.aV 15),.call 20 [.call 19 [aL,b0]]]) [.ret (.lit (.bool ae))] [],.iff (.ay .eq (.sub cJ bq) (.aV 2)) [.set 5 (.sub (.attr aL 3) (.sub cJ bI)),.iff (.or [.ay .lt c8 bq,.ay .gt bp ajo,.call 21 [aL,c8,.bin .add bp bI]]) [.ret (.lit (.bool ae))] []] [.iff (.or [.ay .eq (.sub cJ bq) (.aV 34),.ay .eq (.sub cJ bq) (.aV 35),.ay .eq (.sub cJ bq) (.aV 36)]) [.ret (.lit (.bool ae))] [.iff (.and [.ay .eq (.sub cJ bq) (.aV 28),.bad]) [.ret (.lit (.bool ae))] [.iff (.and [.ay .eq (.sub cJ bq) (.aV 37),.bad]) [.ret (.lit (.bool ae))] []]]]],
  .ret (.lit (.bool aw))]
noncomputable def XM:b7:= {dflt:=[.int 0],bU:=3,cm:=6,body:=Uy}
noncomputable def Uz:I S:=[
  .set 2 (.hC []),
  .set 3 (.iD .i),
  .set 4 (.hC [a3]),
  .while 30000 cJ [.set 5 (.b6 aL 26 [.pop cJ]),.iff (.ay .mem c8 b0) [.cont] [],.fG b0 c8 bI,.set 6 (.sub (.attr (.attr aL 27) 0) c8),.set 7 (.ite (.ay .eq (.sub hs bq) (.aV 4)) (.sub hs bI) (.ab [.ite (.ay .mem (.sub hs bq) (.aV 38)) c8 (.b6 aL 28 [c8])])),.iff (.ay .eq i4 (.ab [c8])) [.expr (.append bp c8)] [.expr (.extend cJ i4)]],
  .ret bp]
noncomputable def XN:b7:= {dflt:=[],bU:=2,cm:=8,body:=Uz}
noncomputable def UA:I S:=[
  .for 2 ae (.aV 39) [.iff (.ay .lt a3 bq) [.bad] [],.set 3 (.sub (.attr aL 0) a3),.iff (.ay .eq (.sub b0 bq) (.aV 40)) [.ret a3] [],.iff (.ay .eq (.sub b0 bq) (.aV 41)) [.ret .bad] [],.iff (.ay .mem (.sub b0 bq) (.aV 42)) [.ret (.aV 43)] [],.iff (.or [.ay .ne (.sub b0 bq) (.aV 44),.sub b0 d9,.attr (.sub (.attr aL 2) (.sub b0 bI)) 16]) [.bad] [],.set 1 (.attr (.sub (.attr aL 2) (.sub b0 bI)) 15)],
  .bad]
noncomputable def XO:b7:= {dflt:=[],bU:=2,cm:=4,body:=UA}
noncomputable def UB:I S:=[
  .cT aL 27 a3,
  .cT aL 29 bq,
  .cT aL 30 (.aV 45),
  .cT aL 31 (.aV 46),
  .cT aL 32 (.lit (.none))]
noncomputable def KG:b7:= {dflt:=[],bU:=2,cm:=2,body:=UB}
noncomputable def UC:I S:=[
  .ret a3]
noncomputable def XQ:b7:= {dflt:=[],bU:=2,cm:=2,body:=UC}
noncomputable def UD:I S:=[
  .ret (.b6 (.attr aL 27) 10 [a3])]
noncomputable def XR:b7:= {dflt:=[],bU:=2,cm:=2,body:=UD}
noncomputable def UE:I S:=[
  .set 2 (.sub (.attr aL 0) a3),
  .iff (.ay .ne (.sub bp bq) (.aV 2)) [.ret a3] [],
  .set 3 (.sub (.attr aL 3) (.sub bp bI)),
  .ret (.ite (.or [.ay .lt b0 bq,.ay .eq b0 (.aV 15)]) (.aV 17) b0)]
noncomputable def XS:b7:= {dflt:=[],bU:=2,cm:=4,body:=UE}
noncomputable def UF:I S:=[
  .set 1 (.all (.comp (.jo .le .le (.lit (.str ⟨#[48]⟩)) bp (.lit (.str ⟨#[57]⟩))) 2 aw aL aa)),
  .ret (.or [.ay .eq aL (.lit (.str ⟨#[48]⟩)),.and [.ay .ne aL (.lit (.str ⟨#[]⟩)),.ay .ne (.sub aL bq) (.lit (.str ⟨#[48]⟩)),a3]])]
noncomputable def XT:b7:= {dflt:=[],bU:=1,cm:=3,body:=UF}
noncomputable def UG:I S:=[
  .ret (.call 27 [.attr aL 27,a3])]
noncomputable def XU:b7:= {dflt:=[],bU:=2,cm:=2,body:=UG}
noncomputable def UH:I S:=[
  .ret (.call 23 [.attr aL 27,a3])]
noncomputable def XV:b7:= {dflt:=[],bU:=2,cm:=2,body:=UH}
noncomputable def UI:I S:=[
  .cT aL 33 a3,
  .cT aL 34 bp,
  .cT aL 35 (.iD .i),
  .cT aL 36 (.iD .t),
  .cT aL 37 (.iD .t),
  .cT aL 38 (.hC []),
  .cT aL 39 (.hC []),
  .cT aL 29 bq,
  .cT aL 40 bq,
  .cT aL 41 (.new 0 []),
  .cT aL 42 (.lit (.bool ae)),
  .cT aL 43 (.lit (.none)),
  .cT aL 44 (.lit (.str ⟨#[]⟩)),
  .cT aL 23 bq]
noncomputable def KH:b7:= {dflt:=[],bU:=3,cm:=3,body:=UI}
noncomputable def UJ:I S:=[
  .ret (.call 42 [aL,a3,bp])]
noncomputable def XW:b7:= {dflt:=[],bU:=3,cm:=3,body:=UJ}
noncomputable def UK:I S:=[
  .iff (.attr aL 42) [.expr (.b6 (.attr aL 41) 10 [a3,.attr aL 23])] []]
noncomputable def XX:b7:= {dflt:=[],bU:=2,cm:=2,body:=UK}
noncomputable def UL:I S:=[
  .ret (.or [.ay .eq a3 bp,.b6 (.call 39 [aL]) 45 [a3,bp]])]
noncomputable def XY:b7:= {dflt:=[],bU:=3,cm:=3,body:=UL}
noncomputable def UM:I S:=[
  .ret (.ab [.len (.attr (.attr aL 41) 0),.len (.attr aL 38)])]
noncomputable def XZ:b7:= {dflt:=[],bU:=1,cm:=1,body:=UM}
noncomputable def UN:I S:=[
  .expr (.call 40 [aL,a3])]
noncomputable def X0:b7:= {dflt:=[],bU:=2,cm:=2,body:=UN}
noncomputable def UO:I S:=[
  .set 4 (.qW (.attr aL 35) a3),
  .ret (.and [.ay .AE cJ (.lit (.none)),.b6 cJ 46 [aL,bp,b0]])]
noncomputable def X1:b7:= {dflt:=[],bU:=4,cm:=5,body:=UO}
noncomputable def UP:I S:=[
  .set 2 (.new 5 [.attr aL 33,a3]),
  .cT bp 35 (.attr aL 35),
  .cT bp 42 (.lit (.bool aw)),
  .ret bp]
noncomputable def X2:b7:= {dflt:=[],bU:=2,cm:=3,body:=UP}
noncomputable def UQ:I S:=[
  .iff (.ay .eq (.attr aL 34) (.aV 47)) [.ret aL] [],
  .iff (.ay .is (.attr aL 43) (.lit (.none))) [.cT aL 43 (.call 38 [aL,.aV 47])] [],
  .ret (.attr aL 43)]
noncomputable def X3:b7:= {dflt:=[],bU:=1,cm:=1,body:=UQ}
noncomputable def UR:I S:=[
  .qQ (.attr (.attr aL 41) 0) (.sub a3 bq),
  .while 30000 (.ay .gt (.len (.attr aL 38)) (.sub a3 bI)) [.mo (.attr aL 36) (.pop (.attr aL 38))]]
noncomputable def X4:b7:= {dflt:=[],bU:=2,cm:=2,body:=UR}
noncomputable def US:I S:=[
  .set 1 (.b6 aL 26 [a3]),
  .iff (.call 16 [.attr aL 27,a3]) [.ret (.call 18 [.attr aL 27,a3])] [],
  .ret a3]
noncomputable def X5:b7:= {dflt:=[],bU:=2,cm:=2,body:=US}
noncomputable def UT:I S:=[
  .iff (.ay .eq a3 bp) [.ret (.lit (.bool ae))] [],
  .set 1 (.call 41 [.attr aL 33,a3]),
  .set 2 (.call 41 [.attr aL 33,bp]),
  .iff (.ay .eq a3 bp) [.ret (.lit (.bool ae))] [],
  .iff (.ay .eq (.attr aL 34) (.aV 47)) [.set 3 (.attr (.attr (.attr aL 33) 27) 0),.iff (.or [.ay .eq a3 (.aV 16),.ay .eq bp (.aV 16)]) [.ret (.lit (.bool ae))] [],.iff (.or [.ay .mem (.sub (.sub b0 a3) bq) (.aV 48),.ay .mem (.sub (.sub b0 bp) bq) (.aV 48)]) [.ret (.lit (.bool aw))] [],.ret (.call 43 [aL,a3,bp])] [],
  .set 4 (.call 47 [aL,a3,bp]),
  .iff (.or [.ay .eq cJ bI,.and [.ay .eq (.attr aL 34) (.aV 49),.ay .ne bp (.aV 3),.ay .eq (.call 47 [aL,bp,a3]) bI]]) [.ret (.lit (.bool ae))] [],
  .ret (.and [.ay .lt cJ bq,.call 43 [aL,a3,bp]])]
noncomputable def X6:b7:= {dflt:=[],bU:=3,cm:=5,body:=UT}
noncomputable def r7:I S:=[
  .set 3 (.ab [a3,bp]),
  .iff (.ay .mem b0 (.attr aL 37)) [.ret (.sub (.attr aL 37) b0)] [],
  .iff (.ay .mem b0 (.attr aL 36)) [.ret (.lit (.bool ae))] [],
  .iff (.and [.ay .ge (.attr aL 40) (.aV 50),.not (.call 45 [aL])]) [.ret (.lit (.bool aw))] [],
  .iff (.or [.ay .ge (.attr aL 29) (.aV 51),.ay .ge (.attr aL 40) (.aV 50)]) [.expr (.b6 aL 47 [.aV 52]),.ret (.lit (.bool ae))] [],
  .n7 aL 40 .add bI,
  .set 4 (.b6 aL 48 []),
  .fG (.attr aL 36) b0 bI,
  .expr (.append (.attr aL 38) b0),
  .n7 aL 29 .add bI,
  .set 5 (.ite (.ay .eq (.attr aL 34) (.aV 47)) (.call 58 [aL,a3,bp]) (.call 52 [aL,a3,bp])),
  .n7 aL 29 .sub bI,
  .iff (.not c8) [.expr (.call 40 [aL,cJ]),.iff (.or [.ay .eq (.sub cJ bI) bq,.ay .ne (.attr aL 34) (.aV 53)]) [.fG (.attr aL 37) b0 (.lit (.bool aw))] []] [.iff (.ay .eq (.sub cJ bI) bq) [.expr (.call 44 [aL,.ay .eq (.len (.attr (.attr aL 41) 0)) (.sub cJ bq)])] []],
  .ret c8]
noncomputable def X7:b7:= {dflt:=[],bU:=3,cm:=6,body:=r7}
noncomputable def UU:I S:=[
  .for 2 aw (.attr aL 38) [.mo (.attr aL 36) bp,.iff a3 [.fG (.attr aL 37) bp (.lit (.bool ae))] []],
  .cT aL 38 (.hC [])]
noncomputable def X8:b7:= {dflt:=[],bU:=2,cm:=3,body:=UU}
noncomputable def UV:I S:=[
  .ret (.and [.attr aL 42,.ay .eq (.attr aL 34) (.aV 54)])]
noncomputable def X9:b7:= {dflt:=[],bU:=1,cm:=1,body:=UV}
noncomputable def UW:I S:=[
  .iff (.and [.call 45 [aL],.ay .ne a3 (.aV 16),.ay .ne bp (.aV 16),.not (.b6 aL 49 [a3,bp])]) [.expr (.b6 aL 47 [.aV 55])] []]
noncomputable def Yb:b7:= {dflt:=[],bU:=3,cm:=3,body:=UW}
noncomputable def UX:I S:=[
  .set 3 (.call 48 [aL,a3,bp]),
  .iff (.ay .ge b0 bq) [.ret b0] [],
  .set 4 (.attr (.attr (.attr aL 33) 27) 0),
  .set 5 (.sub (.sub cJ a3) bq),
  .set 6 (.sub (.sub cJ bp) bq),
  .iff (.or [.ay .mem c8 (.aV 56),.ay .mem hs (.aV 56)]) [.ret (.neg bI)] [],
  .iff (.ay .eq bp (.aV 57)) [.ret (.ite (.ay .mem c8 (.aV 48)) bq (.neg bI))] [],
  .iff (.ay .mem hs (.aV 48)) [.ret (.ite (.ay .mem c8 (.aV 48)) (.call 50 [aL,a3,bp]) bq)] [],
  .iff (.or [.ay .eq a3 (.aV 19),.ay .eq a3 (.aV 58),.ay .eq a3 (.aV 59)]) [.ret bq] [],
  .ret (.neg bI)]
noncomputable def Yc:b7:= {dflt:=[],bU:=3,cm:=7,body:=UX}
noncomputable def UY:I S:=[
  .iff (.or [.ay .eq bp (.aV 15),.ay .eq bp (.aV 16),.ay .eq a3 (.aV 3),.ay .eq a3 (.aV 16)]) [.ret bI] [],
  .iff (.and [.ay .eq a3 (.aV 15),.ay .eq (.attr aL 34) (.aV 53)]) [.ret bq] [],
  .iff (.ay .eq bp (.aV 17)) [.ret bI] [],
  .iff (.ay .eq a3 (.aV 15)) [.iff (.ay .eq bp (.aV 3)) [.ret bq] [],.expr (.b6 aL 47 [.aV 60]),.ret bI] [],
  .iff (.ay .eq a3 (.aV 17)) [.ret .bad] [],
  .iff (.and [.ay .eq bp (.aV 3),.ay .kB (.sub (.sub (.attr (.attr (.attr aL 33) 27) 0) a3) bq) (.aV 56)]) [.ret bq] [],
  .ret (.neg bI)]
noncomputable def Yd:b7:= {dflt:=[],bU:=3,cm:=3,body:=UY}
noncomputable def UZ:I S:=[
  .ret (.and [.ay .eq (.sub aL bq) (.aV 9),.ay .eq (.call 9 [aL]) (.aV 8)])]
noncomputable def Ye:b7:= {dflt:=[],bU:=1,cm:=1,body:=UZ}
noncomputable def U0:I S:=[
  .iff (.ay .eq a3 (.aV 19)) [.ret (.ite (.ay .eq bp (.aV 59)) bI bq)] [],
  .set 3 (.sub (.attr (.attr (.attr aL 33) 27) 0) a3),
  .set 4 (.sub (.attr (.attr (.attr aL 33) 27) 0) bp),
  .iff (.and [.ay .eq (.call 9 [b0]) bp,.ay .ge (.call 9 [b0]) bq]) [.ret bI] [],
  .iff (.and [.ay .eq (.attr aL 34) (.aV 49),.ay .eq (.call 9 [cJ]) a3]) [.ret bI] [],
  .iff (.and [.ay .eq (.sub b0 bq) (.aV 9),.ay .eq (.sub cJ bq) (.aV 9),.ay .eq (.sub b0 bI) (.sub cJ bI)]) [.ret (.ite (.ay .eq (.sub b0 f9) (.sub cJ f9)) bI bq)] [],
  .iff (.ay .eq (.sub b0 bq) (.aV 9)) [.ret (.ite (.and [.ay .mem (.sub cJ bq) (.ab [.aV 1,.aV 7]),.ay .eq (.call 9 [cJ]) (.call 9 [b0]),.ay .eq (.sub cJ bI) (.sub b0 f9)]) bI bq)] [],
  .ret (.call 51 [aL,a3,b0,cJ])]
noncomputable def Yg:b7:= {dflt:=[],bU:=3,cm:=5,body:=U0}
noncomputable def U1:I S:=[
  .iff (.or [.ay .eq (.attr aL 34) (.aV 53),.not (.call 49 [b0])]) [.ret bq] [],
  .iff (.or [.ay .eq a3 (.aV 8),.and [.ay .eq (.sub bp bq) (.aV 7),.ay .eq (.sub bp bI) (.sub b0 f9)]]) [.expr (.b6 aL 47 [.aV 61]),.ret bI] [],
  .ret bq]
noncomputable def Yh:b7:= {dflt:=[],bU:=4,cm:=4,body:=U1}
noncomputable def U2:I S:=[
  .set 3 (.attr (.attr (.attr aL 33) 27) 0),
  .set 4 (.sub (.sub b0 a3) bq),
  .set 5 (.sub (.sub b0 bp) bq),
  .iff (.ay .eq cJ (.aV 4)) [.ret (.call 54 [aL,a3,bp])] [],
  .iff (.ay .eq c8 (.aV 4)) [.ret (.call 57 [aL,a3,bp])] [],
  .ret (.call 37 [aL,.call 53 [cJ,c8],a3,bp])]
noncomputable def Yi:b7:= {dflt:=[],bU:=3,cm:=6,body:=U2}
noncomputable def U3:I S:=[
  .iff (.or [.ay .eq aL (.aV 28),.ay .eq a3 (.aV 28)]) [.ret (.aV 62)] [],
  .iff (.or [.ay .mem aL (.aV 63),.ay .mem a3 (.aV 63)]) [.ret (.aV 64)] [],
  .iff (.and [.ay .eq aL (.aV 41),.ay .eq a3 (.aV 41)]) [.ret (.aV 65)] [],
  .iff (.and [.ay .mem aL (.aV 66),.ay .mem a3 (.aV 66)]) [.ret (.aV 67)] [],
  .ret (.aV 68)]
noncomputable def Yj:b7:= {dflt:=[],bU:=2,cm:=2,body:=U3}
noncomputable def U4:I S:=[
  .for 3 aw (.call 8 [.attr (.attr aL 33) 27,a3]) [.iff (.b6 aL 45 [b0,bp]) [.iff (.ay .eq (.attr aL 34) (.aV 49)) [.ret (.lit (.bool ae))] []] [.iff (.ay .ne (.attr aL 34) (.aV 49)) [.ret (.lit (.bool aw))] []]],
  .ret (.ay .ne (.attr aL 34) (.aV 49))]
noncomputable def Yk:b7:= {dflt:=[],bU:=3,cm:=4,body:=U4}
noncomputable def U5:I S:=[
  .set 3 (.lit (.none)),
  .for 4 aw bp [.set 5 (.b6 aL 48 []),.iff (.b6 aL 45 [a3,cJ]) [.iff (.ay .eq (.len (.attr (.attr aL 41) 0)) (.sub c8 bq)) [.ret (.lit (.bool ae))] [],.iff (.ay .is b0 (.lit (.none))) [.set 3 (.ab [.slice (.attr (.attr aL 41) 0) (D (.sub c8 bq)) aa,.slice (.attr aL 38) (D (.sub c8 bI)) aa])] [],.expr (.b6 aL 50 [c8])] []],
  .iff (.ay .is b0 (.lit (.none))) [.ret (.lit (.bool aw))] [],
  .expr (.call 56 [aL,b0]),
  .ret (.lit (.bool ae))]
noncomputable def Yl:b7:= {dflt:=[],bU:=3,cm:=6,body:=U5}
noncomputable def U6:I S:=[
  .expr (.extend (.attr (.attr aL 41) 0) (.sub a3 bq)),
  .for 2 aw (.sub a3 bI) [.iff (.and [.ay .kB bp (.attr aL 36),.ay .kB bp (.attr aL 37)]) [.fG (.attr aL 36) bp bI,.expr (.append (.attr aL 38) bp)] []]]
noncomputable def Ym:b7:= {dflt:=[],bU:=2,cm:=3,body:=U6}
noncomputable def U7:I S:=[
  .set 3 (.attr (.attr aL 33) 27),
  .set 4 (.call 8 [b0,bp]),
  .iff (.or [.ay .mem a3 cJ,.call 55 [aL,a3,cJ]]) [.ret (.lit (.bool ae))] [],
  .set 5 (.sub (.sub (.attr b0 0) a3) bq),
  .iff (.ay .mem c8 (.aV 63)) [.ret (.call 37 [aL,.aV 64,a3,bp])] [],
  .iff (.and [.ay .eq c8 (.aV 28),.call 37 [aL,.aV 62,a3,bp]]) [.ret (.lit (.bool ae))] [],
  .iff (.or [.ay .eq c8 (.aV 28),.ay .mem c8 (.aV 69)]) [.ret (.call 37 [aL,.aV 70,a3,bp])] [],
  .ret (.and [.ay .eq c8 (.aV 71),.call 37 [aL,.aV 72,a3,bp]])]
noncomputable def Yn:b7:= {dflt:=[],bU:=3,cm:=6,body:=U7}
noncomputable def U8:I S:=[
  .set 3 (.attr (.attr (.attr aL 33) 27) 0),
  .set 4 (.sub b0 a3),
  .set 5 (.sub b0 bp),
  .iff (.and [.ay .eq (.sub cJ bq) (.sub c8 bq),.or [.ay .eq (.sub cJ bq) (.aV 4),.ay .eq (.sub cJ bq) (.aV 28)]]) [.ret (.and [.bad,.bad])] [],
  .iff (.or [.ay .mem (.sub cJ bq) (.ab [.aV 4,.aV 28]),.ay .mem (.sub c8 bq) (.ab [.aV 4,.aV 28])]) [.ret (.lit (.bool aw))] [],
  .ret (.call 37 [aL,.call 53 [.sub cJ bq,.sub c8 bq],a3,bp])]
noncomputable def Yo:b7:= {dflt:=[],bU:=3,cm:=6,body:=U8}
noncomputable def U9:I S:=[
  .ret (.b6 aL 10 [.ab [.aV 2,a3]])]
noncomputable def Yp:b7:= {dflt:=[],bU:=2,cm:=2,body:=U9}
noncomputable def Va:I S:=[
  .set 2 (.sub (.attr aL 3) a3),
  .ret (.ite (.or [.ay .lt bp bq,.ay .eq bp (.aV 15)]) (.aV 17) bp)]
noncomputable def Yq:b7:= {dflt:=[],bU:=2,cm:=3,body:=Va}
noncomputable def Vb:I S:=[
  .set 3 (.sub (.attr (.attr aL 27) 0) (.b6 aL 51 [a3])),
  .iff (.ay .ne (.sub b0 bq) (.aV 40)) [.ret (.aV 3)] [],
  .ret (.call 14 [.attr aL 27,.comp (.call 5 [.attr aL 27,.sub cJ bq]) 4 aw (.sub b0 bI) (D (.ay .eq (.bin .band (.sub cJ d9) bp) bq))])]
noncomputable def Yr:b7:= {dflt:=[],bU:=3,cm:=5,body:=Vb}
noncomputable def Vc:I S:=[
  .set 2 (.sub (.sub (.attr (.attr aL 27) 0) a3) bq),
  .iff (.or [.ay .mem bp (.aV 69),.and [.ay .eq bp (.aV 28),.not .bad]]) [.ret (.call 61 [aL,a3,.aV 73])] [],
  .ret .bad]
noncomputable def Ys:b7:= {dflt:=[],bU:=2,cm:=3,body:=Vc}
noncomputable def Vd:I S:=[
  .iff (.ay .kB (.sub (.sub (.attr (.attr aL 27) 0) a3) bq) (.aV 74)) [.ret (.lit (.bool ae))] [],
  .set 2 (.sub (.attr (.attr aL 27) 0) (.b6 aL 51 [a3])),
  .iff (.ay .ne (.slice bp (D d9) (D jI)) (.ab [.ab [],.ab [],.ab []])) [.ret (.lit (.bool aw))] [],
  .ret (.all (.comp (.or [.ay .ne (.bin .band (.sub b0 d9) (.aV 75)) bq,.ay .mem (.sub b0 bq) (.aV 76),.call 28 [.sub b0 bq]]) 3 aw (.sub bp bI) aa))]
noncomputable def Yt:b7:= {dflt:=[],bU:=2,cm:=4,body:=Vd}
noncomputable def Ve:I S:=[
  .ret (.any (.comp (.call 63 [aL,bp]) 2 aw (.call 22 [aL,a3]) aa))]
noncomputable def Yu:b7:= {dflt:=[],bU:=2,cm:=3,body:=Ve}
noncomputable def Vf:I S:=[
  .ret (.b6 (.attr (.attr aL 33) 27) 10 [.ab [.aV 34,a3,.call 59 [.attr (.attr aL 33) 27,.sub bp bI]]])]
noncomputable def Yv:b7:= {dflt:=[],bU:=3,cm:=3,body:=Vf}
noncomputable def Jm:I S:=[
  .iff (.or [.ay .ge (.sub bp f9) bq,.ay .eq (.sub bp jI) bI]) [.ret (.lit (.bool aw))] [],
  .set 3 (.b6 (.attr (.attr aL 33) 27) 10 [.ab [.aV 77,a3]]),
  .iff (.or [.not (.b6 aL 45 [b0,.sub bp d9]),.not (.b6 aL 45 [.sub bp iJ,.call 65 [aL,a3,bp]])]) [.ret (.lit (.bool aw))] [],
  .expr (.b6 aL 47 [.aV 52]),
  .iff (.ay .eq (.sub bp kb) bI) [.expr (.b6 aL 47 [.aV 78])] [],
  .ret (.lit (.bool ae))]
noncomputable def Yw:b7:= {dflt:=[],bU:=3,cm:=4,body:=Jm}
noncomputable def Vg:I S:=[
  .ret (.and [.ay .eq (.sub aL bq) (.aV 40),.ay .eq (.slice aL (D bI) (D kb)) (.ab [.ab [],.ab [],.ab [],.ab [],.ab []])])]
noncomputable def Yx:b7:= {dflt:=[],bU:=1,cm:=1,body:=Vg}
noncomputable def zo:I S:=[
  .iff (.and [.ay .eq (.sub bp bq) (.aV 37),.bad]) [.ret (.lit (.bool ae))] [],
  .iff (.and [.ay .eq (.sub b0 jI) bI,.call 67 [bp],.ay .ne (.attr aL 34) (.aV 53)]) [.iff (.ay .eq (.sub bp kb) bq) [.expr (.b6 aL 47 [.aV 79])] [],.set 4 (.sub (.attr (.attr (.attr aL 33) 27) 0) (.sub b0 d9)),.iff (.and [.ay .eq (.sub cJ bq) (.aV 77),.call 64 [.attr aL 33,.sub cJ bI]]) [.expr (.b6 aL 47 [.aV 52])] [],.ret (.lit (.bool ae))] [],
  .iff (.or [.ay .ge (.sub b0 f9) bq,.ay .eq (.sub b0 jI) d9]) [.ret (.lit (.bool aw))] [],
  .iff (.ay .eq (.sub b0 iJ) (.call 65 [aL,a3,b0])) [.set 5 .bad] [.set 5 (.and [.ay .ne (.sub bp bq) (.aV 37),.call 71 [aL,a3,b0]])],
  .iff (.and [c8,.call 21 [.attr (.attr aL 33) 27,a3]]) [.expr (.b6 aL 47 [.aV 52])] [],
  .ret c8]
noncomputable def Yy:b7:= {dflt:=[],bU:=4,cm:=6,body:=zo}
noncomputable def Vh:I S:=[
  .set 3 (.sub (.attr aL 0) bp),
  .ret (.ay .eq (.sub (.attr aL 0) (.ite (.ay .eq (.sub b0 bq) (.aV 28)) (.sub (.sub b0 bI) bq) bp)) (.ab [.aV 77,a3]))]
noncomputable def Yz:b7:= {dflt:=[],bU:=3,cm:=4,body:=Vh}
noncomputable def Vi:I S:=[
  .iff (.ay .kB (.sub (.sub (.attr (.attr aL 27) 0) a3) bq) (.aV 69)) [.ret (.lit (.bool ae))] [],
  .ret (.any (.comp (.ay .ne (.bin .band (.sub bp d9) (.aV 80)) bq) 2 aw (.sub (.sub (.attr (.attr aL 27) 0) (.b6 aL 51 [a3])) bI) aa))]
noncomputable def YB:b7:= {dflt:=[],bU:=2,cm:=3,body:=Vi}
noncomputable def Dp:I S:=[
  .set 3 (.attr aL 33),
  .set 4 (.ite (.ay .eq (.sub bp jI) bI) (.call 15 [.attr b0 27,.sub bp iJ]) (.sub bp iJ)),
  .iff (.not (.b6 aL 45 [.sub bp d9,.call 62 [b0,a3]])) [.ret (.lit (.bool aw))] [],
  .set 5 (.b6 b0 52 [.ab [.aV 34,a3,.call 59 [.attr b0 27,.sub bp bI]]]),
  .iff (.not (.b6 aL 45 [c8,cJ])) [.ret (.lit (.bool aw))] [],
  .iff (.and [.ay .eq (.sub bp jI) bq,.ay .kB (.sub (.sub (.attr (.attr b0 27) 0) a3) bq) (.aV 69)]) [.expr .bad] [],
  .iff (.ay .ne (.sub bp kb) bI) [.expr (.call 46 [aL,c8,cJ]),.set 6 (.and [.ay .eq (.sub bp kb) bq,.call 69 [.attr b0 27,a3,.sub bp d9]]),.iff (.and [.not hs,.call 70 [b0,a3]]) [.expr (.b6 aL 47 [.aV 78])] []] [],
  .ret (.lit (.bool ae))]
noncomputable def YC:b7:= {dflt:=[],bU:=3,cm:=7,body:=Dp}
noncomputable def Vj:I S:=[
  .ret (.and [.ay .ne (.attr a3 34) (.aV 47),.call 73 [a3,bp,b0]])]
noncomputable def YD:b7:= {dflt:=[],bU:=4,cm:=4,body:=Vj}
noncomputable def Vk:I S:=[
  .set 3 (.sub (.attr (.attr (.attr aL 33) 27) 0) a3),
  .iff (.ay .ne (.sub b0 bq) (.aV 2)) [.ret (.lit (.bool aw))] [],
  .set 4 (.call 60 [.attr (.attr aL 33) 27,.sub b0 bI]),
  .ret (.and [.ay .ne cJ a3,.b6 aL 45 [cJ,bp]])]
noncomputable def YE:b7:= {dflt:=[],bU:=3,cm:=5,body:=Vk}
noncomputable def Vl:I S:=[
  .fG (.attr aL 35) (.aV 64) (.new 7 [])]
noncomputable def YF:b7:= {dflt:=[],bU:=1,cm:=1,body:=Vl}
noncomputable def Vm:I S:=[
  .set 2 (.sub aL bq),
  .fG aL bq (.bin .add bp bI),
  .set 3 (.ite (.ay .lt bp (.len (.sub aL bI))) (.sub (.sub aL bI) bp) (.sub (.aV 81) (.bin .mod bp ajr))),
  .ret (.bin .mod b0 a3)]
noncomputable def YG:b7:= {dflt:=[],bU:=2,cm:=4,body:=Vm}
noncomputable def Vn:I S:=[
  .set 2 (.ab [.ab [f9,.lit (.str ⟨#[97]⟩),bq],.ab [f9,.lit (.str ⟨#[98]⟩),bq],.ab [iJ,bI,bq],.ab [bI,.lit (.str ⟨#[110,117,108,108]⟩)],.ab [bI,.lit (.str ⟨#[117,110,100,101,102,105,110,101,100]⟩)]]),
  .ret (.call 14 [aL,.comp (.b6 aL 10 [.sub bp b0]) 3 ae jI (D (.ay .eq (.bin .mod (.bin .fdiv a3 (.bin .pow d9 b0)) d9) bI))])]
noncomputable def YH:b7:= {dflt:=[],bU:=2,cm:=4,body:=Vn}
noncomputable def Vo:I S:=[
  .set 2 (.call 7 [aL,d9,.lit (.str ⟨#[73]⟩)]),
  .cT bp 15 a3,
  .ret (.b6 aL 10 [.ab [QE,.attr bp 11,.ab []]])]
noncomputable def YI:b7:= {dflt:=[],bU:=2,cm:=3,body:=Vo}
noncomputable def r8:I S:=[
  .set 2 (.call 75 [aL,QE]),
  .set 3 (.sub (.ab [.lit (.str ⟨#[]⟩),.lit (.str ⟨#[108,101,110,103,116,104]⟩),.lit (.str ⟨#[48]⟩),.lit (.str ⟨#[112]⟩),.lit (.str ⟨#[48,49]⟩),.lit (.str ⟨#[]⟩),.lit (.str ⟨#[]⟩),.lit (.str ⟨#[112,117,115,104]⟩),.lit (.str ⟨#[]⟩)]) bp),
  .set 4 (.lst [.ab [.lit (.str ⟨#[113]⟩),l1,bI,bq]]),
  .iff (.ay .ne b0 (.lit (.str ⟨#[]⟩))) [.rz 4 (.bin .add cJ (.lst [.ab [b0,l1,bq,bq]]))] [],
  .set 5 (.ab [.b6 a3 10 [.ab [QD,.ab [],.ab [],l1,.ab [],bq]]]),
  .set 6 (.b6 a3 10 [.ab [tP,.tuple cJ,.ite (.ay .eq bp jI) c8 (.ab []),.ite (.ay .eq bp tP) c8 (.ab []),.ite (.ay .eq bp kb) (.ab [l1,bq]) (.ab []),.ab [],bq]]),
  .iff (.ay .eq (.call 75 [aL,d9]) bI) [.set 6 (.call 77 [a3,hs])] [],
  .ret (.ab [hs,.or [.ay .lt bp f9,.ay .eq bp l1]])]
noncomputable def YJ:b7:= {dflt:=[],bU:=2,cm:=7,body:=r8}
noncomputable def Dq:I S:=[
  .set 2 (.call 75 [aL,tP]),
  .mN 3 4 (.call 78 [aL,a3]),
  .mN 5 6 (.call 78 [aL,a3]),
  .iff (.ay .eq bp bq) [.ret (.ab [.call 6 [a3,.lit (.str ⟨#[84]⟩),.neg (.call 75 [aL,d9]),.neg bI],.lit (.bool ae)])] [],
  .iff (.ay .eq bp bI) [.ret (.ab [.call 6 [a3,.lit (.str ⟨#[84]⟩),b0,.neg bI],cJ])] [],
  .iff (.ay .eq bp d9) [.ret (.ab [.call 6 [a3,.lit (.str ⟨#[84]⟩),.call 6 [a3,.lit (.str ⟨#[86]⟩),b0,.neg bI],.neg bI],cJ])] [],
  .iff (.ay .eq bp f9) [.ret (.ab [.call 6 [a3,.lit (.str ⟨#[84]⟩),.call 14 [a3,.lst [b0,jI]],.neg bI],.lit (.bool ae)])] [],
  .iff (.ay .eq bp iJ) [.ret (.ab [.call 6 [a3,.lit (.str ⟨#[84]⟩),kb,.neg bI],.lit (.bool ae)])] [],
  .iff (.ay .eq bp jI) [.ret (.ab [.call 6 [a3,.lit (.str ⟨#[84]⟩),.b6 a3 10 [.ab [QC,b0,bq]],.neg bI],.lit (.bool ae)])] [],
  .iff (.ay .eq bp kb) [.ret (.ab [.call 6 [a3,.lit (.str ⟨#[84]⟩),.call 14 [a3,.lst [b0,c8]],.neg bI],.or [cJ,hs]])] [],
  .ret (.ab [b0,cJ])]
noncomputable def YK:b7:= {dflt:=[],bU:=2,cm:=7,body:=Dq}
noncomputable def Vp:I S:=[
  .set 3 (.slice (.attr (.attr aL 41) 0) (D a3) aa),
  .iff (.any (.comp (.ay .ne (.sub c8 bI) (.attr aL 23)) 5 aw b0 aa)) [.ret (.lit (.bool aw))] [],
  .set 4 (.comp (.sub hs bq) 6 aw b0 aa),
  .ret (.ay .eq (.comp i4 7 ae ajp (D (.ay .mem i4 cJ))) (.ite (.attr aL 42) bp (.lst [])))]
noncomputable def YM:b7:= {dflt:=[],bU:=3,cm:=8,body:=Vp}
noncomputable def Vq:I S:=[
  .set 5 (.len (.attr (.attr aL 41) 0)),
  .for 6 ae d9 [.iff (.ay .ne (.call 68 [aL,a3,.sub (.attr (.attr (.attr aL 33) 27) 0) a3,bp]) b0) [.ret (.lit (.bool aw))] [],.iff (.not (.call 80 [aL,c8,.ite b0 cJ (.lst [])])) [.ret (.lit (.bool aw))] []],
  .ret (.lit (.bool ae))]
noncomputable def YN:b7:= {dflt:=[],bU:=5,cm:=7,body:=Vq}
noncomputable def r9:I S:=[
  .set 4 (.call 75 [aL,tP]),
  .mN 5 6 (.call 79 [aL,a3]),
  .set 7 (.call 75 [aL,iJ]),
  .set 8 (.sub (.ab [bI,bI,bq,bI,d9]) (.call 75 [aL,jI])),
  .set 9 (.call 75 [aL,f9]),
  .set 10 (.ay .eq (.call 75 [aL,f9]) d9),
  .set 11 (.b6 a3 10 [.ab [Hp,c8]]),
  .iff (.ay .eq i4 d9) [.set 11 (.call 6 [a3,.lit (.str ⟨#[75]⟩),qb,.neg bI])] [],
  .iff (.ay .eq i4 f9) [.set 11 (.call 14 [a3,.lst [.b6 a3 10 [.ab [f9,.lit (.str ⟨#[112]⟩),bq]],.b6 a3 10 [.ab [f9,.lit (.str ⟨#[113]⟩),bq]]]])] [],
  .set 12 (.call 6 [a3,.lit (.str ⟨#[80]⟩),qb,.neg bI]),
  .set 13 (.ite (.ay .eq qc d9) (.b6 a3 10 [.ab [tO,c8,mQ]]) (.bin .add kb qc)),
  .set 14 (.ab [Cd,.sub (.sub (.attr a3 0) mQ) bI,qb,.ite vW kb (.neg bI),rQ,oU,.call 75 [aL,f9]]),
  .set 15 (.ite (.ay .eq cJ f9) (.ab [.ab [.lit (.str ⟨#[122]⟩),l1,bq,bq]]) (.ab [])),
  .set 16 (.ab [.b6 a3 10 [.ab [QD,.ab [],.ab [],l1,.ab [],bq]]]),
  .set 17 (.ab [.ite (.ay .eq cJ jI) (.ab [l1,bq]) (.ab []),.ite (.ay .eq cJ iJ) (.ab [l1,bq]) (.ab [])]),
  .set 18 (.ab [.ite (.ay .eq cJ kb) Ce (.ab []),.ite (.ay .eq cJ l1) Ce (.ab [])]),
  .set 19 (.b6 a3 10 [.ab [tP,yw,.sub vY bq,.sub vY bI,.sub yx bq,.sub yx bI,.ite (.ay .eq cJ bI) bI bq]]),
  .iff (.ay .eq cJ d9) [.set 19 (.call 77 [a3,vZ])] [],
  .set 20 (.and [.ay .lt cJ d9,.ay .eq oU bI,.ay .ne b0 iJ]),
  .set 21 (.bin .add (.ite (.ay .eq cJ bq) (.lst [QC]) (.lst [])) (.ite (.and [.ay .lt i4 d9,hs]) (.lst [tO]) (.lst []))),
  .ret (.call 81 [bp,vZ,vX,Cf,Hq])]
noncomputable def YO:b7:= {dflt:=[],bU:=4,cm:=22,body:=r9}
noncomputable def zp:I S:=[
  .set 2 (.iD .s),
  .set 3 (.hC []),
  .for 4 aw (.ab [.lit (.str ⟨#[112]⟩),.lit (.str ⟨#[113]⟩),.lit (.str ⟨#[114]⟩)]) [.set 5 (.call 75 [aL,ajx]),.iff (.ay .gt (.bin .mod c8 f9) bq) [.set 6 (.sub (.ab [bI,d9,f9,Cd]) (.bin .fdiv c8 ajq)),.set 7 (.ay .eq (.bin .mod (.bin .fdiv c8 f9) d9) bI),.set 8 (.sub (.ab [bq,bq,tP,Cc]) (.bin .mod (.bin .fdiv c8 kb) iJ)),.set 9 (.ay .eq (.bin .mod c8 f9) d9),.fG bp cJ (.ab [.ite qc (.bin .bor hs Cc) hs,i4,.ay .gt oU bq]),.set 10 (.bin .add (.bin .add oU (.ite qc bI bq)) (.ite i4 d9 bq)),.expr (.append b0 (.ab [cJ,.call 76 [a3,hs],vW,.ite (.ay .gt oU bq) bI bq]))] []],
  .set 11 (.call 75 [aL,f9]),
  .set 12 (.ite (.ay .eq (.call 75 [aL,f9]) d9) (.ab [l1,bq]) (.ab [])),
  .iff (.ay .eq bp (.iD .s)) [.fG bp (.lit (.str ⟨#[112]⟩)) (.ab [bI,.lit (.bool aw),.lit (.bool aw)]),.set 3 (.lst [.ab [.lit (.str ⟨#[112]⟩),.call 76 [a3,bI],bq,bq]])] [],
  .set 13 (.b6 a3 10 [.ab [tP,.tuple b0,.ab [],.ab [],mQ,.ab [],.ite (.ay .eq qb bI) bI bq]]),
  .ret (.ab [.ite (.ay .eq qb d9) (.call 77 [a3,rQ]) rQ,bp])]
noncomputable def YQ:b7:= {dflt:=[],bU:=2,cm:=14,body:=zp}
noncomputable def wC:I S:=[
  .mN 4 5 (.call 83 [aL,a3]),
  .set 6 (.call 75 [aL,Cc]),
  .set 7 (.comp (.sub (.ab [.lit (.str ⟨#[112]⟩),.lit (.str ⟨#[113]⟩),.lit (.str ⟨#[114]⟩),.lit (.str ⟨#[119]⟩)]) QF) 24 ae iJ (D (.ay .eq (.bin .mod (.bin .fdiv hs (.bin .pow d9 QF)) d9) bI))),
  .set 8 (.call 14 [a3,.comp (.b6 a3 10 [.ab [f9,ajA,bq]]) 25 aw i4 aa]),
  .for 9 ae (.call 75 [aL,f9]) [.set 8 (.call 6 [a3,.lit (.str ⟨#[75]⟩),oU,.neg bI])],
  .set 10 (.call 6 [a3,.lit (.str ⟨#[80]⟩),oU,.neg bI]),
  .set 11 (.b6 a3 10 [.ab [tO,cJ,vW]]),
  .set 12 (.call 75 [aL,ajv]),
  .set 13 (.sub (.ab [bq,bI,bq,d9]) (.call 75 [aL,iJ])),
  .set 14 (.call 75 [aL,f9]),
  .set 15 (.ay .eq (.call 75 [aL,kb]) jI),
  .set 16 (.call 76 [a3,mQ]),
  .iff (.or [.ay .eq mQ bq,.ay .gt mQ ajs]) [.set 16 (.ite (.ay .eq mQ aju) (.call 14 [a3,.lst [qb,jI]]) bq)] [],
  .set 17 (.comp (.sub (.sub c8 QG) bq) 26 aw i4 (D (.ay .mem QG c8))),
  .set 18 (.comp (.and [.ay .mem QH c8,.not (.sub (.sub c8 QH) d9)]) 27 aw i4 aa),
  .set 19 (.ite (.ay .eq rQ bI) (.bin .bor mQ Cc) mQ),
  .iff (.ay .eq b0 d9) [.set 20 (.or [.ay .eq i4 (.lst []),.any (.comp (.ay .gt (.bin .band ajB vZ) bq) 28 aw yx aa)]),.set 21 (.or [.ay .eq i4 (.lst []),.any vY])] [.set 20 (.all (.comp (.ay .eq (.bin .band QI vZ) QI) 29 aw yx aa)),.set 21 (.all vY)],
  .iff (.jo .lt .lt bq mQ ajt) [.fG (.attr bp 37) (.ab [qb,.call 76 [a3,vZ]]) Cf] [.set 20 (.lit (.bool ae))],
  .set 22 (.lst []),
  .iff (.ay .ne vX bI) [.set 22 (.bin .add (.lst [f9]) (.ite (.any (.m8 5 1)) (.lst [iJ]) (.lst [])))] [],
  .set 23 (.ab [Cd,.sub (.sub (.attr a3 0) vW) bI,oU,.ite yw kb (.neg bI),Ce,rQ,vX]),
  .ret (.call 81 [bp,cJ,ajz,.and [Cf,Hq,.ay .lt rQ d9,.not yw],ajy])]
noncomputable def YR:b7:= {dflt:=[],bU:=4,cm:=30,body:=wC}
noncomputable def qG:I S:=[
  .set 4 (.call 6 [a3,.lit (.str ⟨#[84]⟩),.neg bI,.neg bI]),
  .set 5 (.call 6 [a3,.lit (.str ⟨#[87]⟩),.neg bI,.neg bI]),
  .set 6 (.b6 a3 10 [.ab [Hp,cJ]]),
  .set 7 (.call 6 [a3,.lit (.str ⟨#[75]⟩),hs,.neg bI]),
  .set 8 (.call 75 [aL,iJ]),
  .set 9 (.call 75 [aL,l1]),
  .set 10 (.sub (.ab [bq,d9,bI]) (.call 75 [aL,f9])),
  .set 11 (.call 75 [aL,f9]),
  .set 12 (.ay .eq (.call 75 [aL,kb]) jI),
  .set 13 (.sub (.ab [hs,.call 14 [a3,.lst [hs,.b6 a3 10 [.ab [f9,.lit (.str ⟨#[122]⟩),bq]]]],i4,.b6 a3 10 [.ab [Hp,c8]]]) oU),
  .set 14 (.call 6 [a3,.lit (.str ⟨#[80]⟩),rQ,.neg bI]),
  .set 15 (.b6 a3 10 [.ab [tO,cJ,vX]]),
  .set 16 (.sub (.ab [yw,d9,bq,l1,.call 14 [a3,.lst [yw,jI]],.b6 a3 10 [.ab [tO,c8,vX]],.b6 a3 10 [.ab [tO,cJ,i4]]]) qc),
  .set 17 (.or [.ay .lt qc d9,.and [.ay .eq qc d9,.ay .ne b0 iJ],.and [.ay .eq qc iJ,.ay .eq b0 d9]]),
  .set 18 (.and [.ay .lt oU d9,yx,.ay .ne vW bI,.not mQ]),
  .set 19 (.bin .add (.bin .add (.ite (.ay .eq qc d9) (.lst [bI]) (.lst [])) (.ite (.ay .eq qb bI) (.lst [iJ]) (.lst []))) (.lst [tO])),
  .set 20 (.len (.attr (.attr bp 41) 0)),
  .set 21 (.ab [Cd,.sub (.sub (.attr a3 0) vX) bI,rQ,.ite mQ kb (.neg bI),Ce,vW,qb]),
  .for 22 ae d9 [.iff (.or [.ay .ne (.call 66 [bp,cJ,Hq]) vY,.not (.call 80 [bp,Cf,.ite vY vZ (.lst [])])]) [.ret (.lit (.bool aw))] []],
  .ret (.lit (.bool ae))]
noncomputable def YS:b7:= {dflt:=[],bU:=4,cm:=23,body:=qG}
noncomputable def wD:I S:=[
  .set 1 (.hC [bq,.comp i4 7 aw (.slice aL aa (D ajw)) aa]),
  .set 2 (.new 1 []),
  .set 3 (.sub (.ab [bI,bI,iJ,d9]) (.call 75 [a3,iJ])),
  .set 4 (.ay .lt (.call 75 [a3,jI]) iJ),
  .set 5 (.new 5 [.new 6 [bp],b0]),
  .expr (.call 74 [c8]),
  .cT c8 42 (.and [cJ,.ay .eq b0 bI]),
  .for 6 ae (.bin .add bI (.bin .fdiv (.len (.sub a3 bI)) ajn)) [.cT c8 23 hs,.iff (.not (.call 82 [a3,bp,c8,b0])) [.ret (.lit (.bool aw))] [],.iff (.or [.not (.call 84 [a3,bp,c8,b0]),.not (.call 85 [a3,bp,c8,b0])]) [.ret (.lit (.bool aw))] []],
  .ret (.and [.ay .eq (.attr c8 38) (.lst []),.ay .eq (.attr c8 36) (.iD .t)])]
noncomputable def YT:b7:= {dflt:=[],bU:=1,cm:=8,body:=wD}
noncomputable def ng:I b7:=[z1,f1,f2,kp,f4,z2,D6,YA,YL,YU,XA,XB,XC,XD,XE,XF,XG,XH,XI,XJ,XK,XM,XN,XO,KG,XQ,XR,XS,XT,XU,XV,KH,XW,XX,XY,XZ,X0,X1,X2,X3,X4,X5,X6,X7,X8,X9,Yb,Yc,Yd,Ye,Yg,Yh,Yi,Yj,Yk,Yl,Ym,Yn,Yo,Yp,Yq,Yr,Ys,Yt,Yu,Yv,Yw,Yx,Yy,Yz,YB,YC,YD,YE,YF,YG,YH,YI,YJ,YK,YM,YN,YO,YQ,YR,YS,YT]
noncomputable def x6(l:I yR):I aK:=l.map hS
noncomputable def Zh:I aK:=x6 ["","","","","","str_type","new_param","new_decl","parts_of","whole_of_row","regular_twin","join_bools","stays_beside","top_of","union","add_undef","is_literal","is_fresh","regular_one","family","is_nullish_family","may_be_nullish","final_parts","plain_shape","","","","bound_of","is_digits","","","","","","","","","by_rule","silent_with","twin_of","cut_back","settled","ask_kinds","relbase_kept","close_trail","tells","taken_wider","simple_related","tops_related","is_numeric_enum","values_related","number_to_enum","structured","rule_for","from_union","some_part","lay_again","to_union","same_kind","own_param","pid_bound","shown_keys","named_keys","loosely_kept","may_stay","member_of","mapped_to_param","is_empty_object","to_mapped","keeps_marks","has_readonly","by_members","","param_related","install_rel_params","_law_take","_law_kind","_law_declared","_law_thing","_law_over","_law_told","_law_goes","_law_nothing","_law_object","_law_written","_law_back","law"]
noncomputable def Wq:I aK:=x6 ["Notes","TypeTable","Decl","Thin","RelRule","Rel","BoundHost","ParamRule"]
noncomputable def NB:I aK:=x6 ["rows","index","decls","bounds","defaults","names","origins","renamed","shaping","putting","put","did","kind","name","params","body","bases","static","extends_class","abstract","members","variances","busy","at","file","nid","force","tab","bound","deep","most_rounds","most_deep","lib","host","mode","rules","assumed","known","trail","road","looks","notes","telling","twin","missing","ask","holds","note","mark","same","back","shape","put_deferred"]
noncomputable def ZB:I aK:=x6 ["FIRST_ROWS","Y_STR","Y_PARAM","NEVER","Y_UNION","Y_TPL","STRING","Y_NUM","NUMBER","Y_ENUM","MARKED_ROWS","FALSE_T","FRESH_F","TRUE_T","FRESH_T","ANY","ERR","UNKNOWN","MAX_UNION","UNDEF","LITERAL_ROWS","Y_KEY","KEY_FAMILIES","FAM_OTHER","Y_BOOL","FAM_BOOL","OBJECT_ROWS","FAM_OBJ","Y_INTER","FAM_STR","FAM_NUM","FAM_NULL","FAM_UNDEF","FAM_VOID","Y_INDEX","Y_COND","Y_ALIAS","Y_MAPPED","LIST_ROWS_shapes","MOST_PLAIN","Y_OBJ","Y_SIG","PLAIN_ROWS","EMPTY","Y_REF","MOST_ROUNDS","MOST_SHAPES","R_IDENT","VALUE_ROWS","R_COMPARE","MOST_LOOKS","MAX_OPEN","U_VAR","R_SUBTYPE","R_ASSIGN","U_PROP","OPEN_ROWS","OBJECTT","NULLT","VOID","U_ANY","U_ENUM","RULE_MEET","DEFERRED_ROWS","RULE_DEFERRED","RULE_SIG","LIST_ROWS_relbase","RULE_LIST","RULE_OBJECT","SHAPED_ROWS","RULE_CHOICE","Y_TUPLE","RULE_PLACES","HIDDEN","MEMBER_ROWS","P_OPT","LIST_NAMES","Y_KEYOF","U_READONLY","U_OPTION","P_READONLY","_law_base"]
noncomputable def La:I (aJ V):=[D (.ab [.ab [.int 1,.str ⟨#[97,110,121]⟩],.ab [.int 1,.str ⟨#[117,110,107,110,111,119,110]⟩],.ab [.int 1,.str ⟨#[110,101,118,101,114]⟩],.ab [.int 1,.str ⟨#[118,111,105,100]⟩],.ab [.int 1,.str ⟨#[117,110,100,101,102,105,110,101,100]⟩],.ab [.int 1,.str ⟨#[110,117,108,108]⟩],.ab [.int 1,.str ⟨#[115,116,114,105,110,103]⟩],.ab [.int 1,.str ⟨#[110,117,109,98,101,114]⟩],.ab [.int 2,.int 0,.int 0],.ab [.int 2,.int 1,.int 0],.ab [.int 1,.str ⟨#[111,98,106,101,99,116]⟩],.ab [.int 8,.ab [],.ab [],.ab [],.ab [],.ab [],.int 0],.ab [.int 6,.ab [.int 8,.int 9]],.ab [.int 1,.str ⟨#[101,114,114,111,114]⟩],.ab [.int 2,.int 0,.int 1],.ab [.int 2,.int 1,.int 1]]),D (.int 3),D (.int 10),D (.int 2),D (.int 6),D (.int 18),D (.int 6),D (.int 4),D (.int 7),D (.int 5),D (.ab [.int 2,.int 3,.int 4,.int 5,.int 8]),D (.int 8),D (.int 14),D (.int 9),D (.int 15),D (.int 0),D (.int 13),D (.int 1),D (.int 400),D (.int 4),D (.ab [.int 2,.int 3,.int 4,.int 5]),D (.int 1),aa,D (.int 0),D (.int 2),D (.int 3),D (.ab [.int 8,.int 9,.int 11,.int 12,.int 13]),D (.int 7),D (.int 7),D (.int 1),D (.int 2),D (.int 4),D (.int 5),D (.int 6),D (.int 15),D (.int 16),D (.int 19),D (.int 17),D (.ab [.int 11,.int 12]),D (.int 40),D (.int 8),D (.int 13),D (.ab [.int 1,.int 2,.int 3,.int 4,.int 5]),D (.int 11),D (.int 9),D (.int 200),D (.int 40),D (.int 3),D (.ab [.int 1,.int 2,.int 3,.int 4,.int 5]),D (.int 2),D (.int 20000),D (.int 60),D (.int 15),D (.int 4),D (.int 1),D (.int 3),D (.ab [.int 6,.int 7,.int 10,.int 14,.int 15,.int 16,.int 17,.int 18,.int 19]),D (.int 10),D (.int 5),D (.int 3),D (.int 1),D (.int 10),D (.int 1),D (.ab [.int 10,.int 14,.int 15,.int 16,.int 17,.int 18,.int 19]),D (.int 2),D (.int 3),D (.ab [.int 11,.int 12]),D (.int 4),D (.int 5),D (.ab [.int 8,.int 9]),D (.int 6),D (.int 12),D (.int 12),D (.int 24),D (.ab [.int 8,.int 9,.int 7]),D (.int 1),D (.ab [.str ⟨#[99,104,97,114,65,116]⟩,.str ⟨#[99,111,110,99,97,116]⟩,.str ⟨#[101,118,101,114,121]⟩,.str ⟨#[102,105,108,116,101,114]⟩,.str ⟨#[102,111,114,69,97,99,104]⟩,.str ⟨#[105,110,99,108,117,100,101,115]⟩,.str ⟨#[105,110,100,101,120,79,102]⟩,.str ⟨#[106,111,105,110]⟩,.str ⟨#[108,101,110,103,116,104]⟩,.str ⟨#[109,97,112]⟩,.str ⟨#[112,111,112]⟩,.str ⟨#[112,117,115,104]⟩,.str ⟨#[114,101,100,117,99,101]⟩,.str ⟨#[114,101,118,101,114,115,101]⟩,.str ⟨#[115,104,105,102,116]⟩,.str ⟨#[115,108,105,99,101]⟩,.str ⟨#[115,111,109,101]⟩,.str ⟨#[116,111,76,111,119,101,114,67,97,115,101]⟩,.str ⟨#[116,111,83,116,114,105,110,103]⟩,.str ⟨#[116,111,85,112,112,101,114,67,97,115,101]⟩]),D (.int 14),D (.int 4),D (.int 11),D (.int 2),D (.ab [.int 0,.int 0,.int 0,.int 1,.int 1,.int 0,.int 0,.int 0,.int 0,.int 0,.int 0,.int 0,.int 0,.int 1,.int 5,.int 0,.int 0,.int 0,.int 3,.int 1,.int 19,.int 0,.int 0,.int 0,.int 0,.int 0,.int 0,.int 1,.int 0])]
noncomputable def K9:I (I (O×O)):=[[],[],[],[],[],[],[],[],[],[],[],[],[],[],[],[],[],[],[],[],[],[],[(3,6),(4,5),(5,4),(6,1),(7,2),(10,7)],[],[],[],[],[],[],[],[],[],[],[],[],[],[],[],[],[],[],[],[],[],[],[],[],[],[],[],[],[],[],[],[],[],[],[],[],[],[],[],[],[],[],[],[],[],[],[],[],[],[],[],[],[],[],[],[],[],[],[]]
noncomputable def xJ:I (H×H×H):=[(0,10,1),(1,10,3),(3,26,25),(3,52,26),(5,45,32),(5,47,33),(5,49,34),(5,48,35),(5,50,36),(6,26,25),(6,52,26),(6,28,29),(6,51,30),(7,46,72)]
noncomputable def L5:I (aJ (aJ H)):=[D (D 0),D (D 2),D (D 4),D (D 24),D aa,D (D 31),D (D 24),D aa]
noncomputable def Ea:I (H×I H):=[(0,[0]),(1,[0,1,2,3,4,5,6,7,8,9]),(2,[11,12,13,14,15,16,17,18,19,20,21,22,23,24,25]),(3,[27,29,30,31,32]),(5,[23,29,33,34,35,36,37,38,39,40,41,42,43,44]),(6,[27,29,30,31,32]),(7,[])]
noncomputable def Od:I (I aK):=HE x6 [["self"],
 ["self","code","at"],
 ["self","row"],
 ["self","row","t"],
 ["self","did","kind","name"],
 ["tab","text","fresh"],
 ["tab","name","bound","default","pid"],
 ["tab","kind","name","decl"],
 ["tab","t","row"],
 ["row","kind"],
 ["tab","t","row"],
 ["got"],
 ["tab","got","t"],
 ["got","t"],
 ["tab","parts","got","t","part","top","kept"],
 ["tab","t"],
 ["tab","t"],
 ["tab","t","row"],
 ["tab","t"],
 ["tab","t","row","kind","whole"],
 ["fam"],
 ["tab","t","deep","part","row","bound"],
 ["host","t","out","seen","waiting","at","row","more"],
 ["tab","t","turn","row"],
 ["self","tab"],
 ["self","t"],
 ["self","row"],
 ["tab","t","row","bound"],
 ["name","digits"],
 ["self","t"],
 ["self","t"],
 ["self","host","mode"],
 ["self","s","t"],
 ["self","code"],
 ["self","s","t"],
 ["self"],
 ["self","spot"],
 ["rel","number","s","t","rule"],
 ["rel","mode","made"],
 ["rel"],
 ["rel","spot"],
 ["host","t"],
 ["rel","s","t","rows","told"],
 ["rel","s","t","key","spot","answer"],
 ["rel","clean","key"],
 ["rel"],
 ["rel","s","t"],
 ["rel","s","t","told","rows","a","b"],
 ["rel","s","t"],
 ["row"],
 ["rel","s","t","a","b"],
 ["rel","s","a","b"],
 ["rel","s","t","rows","a","b"],
 ["a","b"],
 ["rel","s","t","part"],
 ["rel","s","parts","lax","part","spot"],
 ["rel","lax","key"],
 ["rel","s","t","tab","parts","kind"],
 ["rel","s","t","rows","a","b"],
 ["tab","pid"],
 ["tab","pid","bound"],
 ["host","t","spared","shape"],
 ["host","s","kind"],
 ["host","part","row"],
 ["host","t"],
 ["rel","s","row"],
 ["rel","t","a","keys"],
 ["row"],
 ["rel","s","a","b","keys","held"],
 ["tab","s","keys","row"],
 ["host","s"],
 ["rel","s","b","host","want","member","kept"],
 ["self","rel","s","t"],
 ["rel","s","t","row","bound"],
 ["rel"],
 ["d","n","at","x"],
 ["tab","mask","rows"],
 ["tab","body","decl"],
 ["d","tab","more","name","props","sig","t"],
 ["d","tab","way","t","light","other","also"],
 ["rel","held","want","got","have"],
 ["rel","s","row","lets","want","held","go"],
 ["d","tab","rel","mode","which","x","stays","how","opt","form","named","over","own","goal","row","more","sig","cells","calls","s","lets","want"],
 ["d","tab","table","props","name","y","mask","closed","hidden","free","flags","way","cell","t"],
 ["d","tab","rel","mode","s","table","some","names","over","go","own","member","mask","opt","ro","named","goal","reads","seen","want","held","keyed","due","row"],
 ["d","tab","rel","mode","t","w","over","k","how","form","opt","ro","named","keys","own","mine","goal","fits","lets","want","held","row","go"],
 ["script","d","tab","mode","loud","rel","lap"]]
noncomputable def PP:c4:= {
 fn:=fun i=>ng[i]?
 aV:=fun i=>(La[i]?).getD aa
 b6:=fun c m=>(xJ.find? fun x=>x.1==c && x.2.1==m).map fun x=>x.2.2
 init:=fun c=>(L5[c]?).getD aa
 fld:=fun c a=>Ea.any fun x=>x.1==c && x.2.any fun y=>y==a
 lD:=fun i=>(K9[i]?).getD []}
@[simp] theorem sX:PP.b6 1 10=D 3:=by decide
noncomputable def fx:g9:=akM
noncomputable def yb(own:I aK)(g5:kN):cR:=
 {slots:=(own.zipIdx).map fun x=>(x.1,x.2)
  fD:=(g5.names.filter fun p=>p.2== .globalImplicit).map (·.1)
  h3:=(g5.names.filter fun p=>p.2== .cell).map (·.1)}
noncomputable def TT:y5:= {nm:=fun i=>(NB[i]?).getD ⟨#[1000000+i]⟩,lC:=fun i=>(Zh[i]?).getD ⟨#[]⟩,m6:=fun i=>(Wq[i]?).getD ⟨#[]⟩,jW:=fun i=>(ZB[i]?).getD ⟨#[]⟩}
end KK
namespace KK
open PySem
theorem av{α dg:Type}{o:aJ α}{a:α}{f:α->aJ dg}{r:aJ dg}(h:o=D a)(k:f a=r):o.bind f=r:=by rw[h];exact k
theorem cps{B:Prop}(h:∀G:Prop,(B->G)->G):B:=h B id
noncomputable def pV{α:Type}(o:aJ α)(ar:α->Prop):Prop:=match o with|some v=>ar v|none=>True
theorem rs{α:Type}{o:aJ α}{ar:α->Prop}(h:∀v,o=D v->ar v):pV o ar:=match o,h with
 |some v,h=>h v rfl
 |none,_=>trivial
noncomputable def po(σ:St)(v:V)(ar:au->Prop):Prop:=match v with
 |.bool b=>ar b
 |.none=>ar aw
 |.int i=>∀⦃b⦄,eh σ (.int i)=D b->ar b
 |.str s=>∀⦃b⦄,eh σ (.str s)=D b->ar b
 |.ab l=>∀⦃b⦄,eh σ (.ab l)=D b->ar b
 |.lst l=>∀⦃b⦄,eh σ (.lst l)=D b->ar b
 |.obj n=>∀⦃b⦄,eh σ (.obj n)=D b->ar b
theorem ul{σ:St}{ar:au->Prop}:∀ {v:V},(∀b,eh σ v=D b->ar b)->po σ v ar
 |.bool b,h=>h b rfl
 |.none,h=>h aw rfl
 |.int i,h=>h
 |.str i,h=>h
 |.ab i,h=>h
 |.lst i,h=>h
 |.obj i,h=>h
noncomputable def two(CF CE:Prop)(b:au):Prop:=match b with|true=>CF|false=>CE
theorem B4{CF CE:Prop}:∀ {b:au},(b=ae->CF)->(b=aw->CE)->two CF CE b
 |true,h,_=>h rfl
 |false,_,h=>h rfl
noncomputable def lO(v:V)(ar:H->Prop):Prop:=match v with|.obj n=>ar n|.none|.bool _|.int _|.str _|.ab _|.lst _=>True
theorem mK{ar:H->Prop}:∀ {v:V},(∀n,v= .obj n->ar n)->lO v ar
 |.obj n,h=>h n rfl
 |.none,_=>trivial
 |.bool _,_=>trivial
 |.int _,_=>trivial
 |.str _,_=>trivial
 |.ab _,_=>trivial
 |.lst _,_=>trivial
noncomputable def xo(v:V)(ar:O->Prop):Prop:=match v with|.int n=>ar n|.none|.bool _|.obj _|.str _|.ab _|.lst _=>True
theorem Az{ar:O->Prop}:∀ {v:V},(∀n,v= .int n->ar n)->xo v ar
 |.int n,h=>h n rfl
 |.none,_=>trivial
 |.bool _,_=>trivial
 |.obj _,_=>trivial
 |.str _,_=>trivial
 |.ab _,_=>trivial
 |.lst _,_=>trivial
noncomputable def Gh(v:V)(ar:V->V->Prop):Prop:=match v with|.ab [a,b]=>ar a b|_=>True
theorem aeh{ar:V->V->Prop}{v:V}(h:∀a b,v= .ab [a,b]->ar a b):Gh v ar:=by
 unfold Gh;split
 ·exact h _ _ rfl
 ·trivial
noncomputable def zJ(live:St->au)(i:H)(ui:Loc->St->(ev->Loc->St->Prop)->Prop)(ar:ev->Loc->St->Prop):I V->Loc->St->Prop
 |[],J,σ=>live σ=ae->ar .next J σ
 |v::vs,J,σ=>live σ=ae->ui (J.set i (D v)) σ fun f J σ=>match f with
  |.next=>zJ live i ui ar vs J σ
  |.cont=>zJ live i ui ar vs J σ
  |.brk=>ar .next J σ
  |.ret v=>ar (.ret v) J σ
noncomputable def zI(d:H)(ck:V->St->(au->St->Prop)->Prop)(f:V->St->(V->St->Prop)->Prop)(live:St->au)(ar:St->Prop):I V->St->Prop
 |[],σ=>live σ=ae->ar σ
 |v::vs,σ=>live σ=ae->ck v σ fun b σ=>two (f v σ fun x σ=>∀⦃cb⦄,σ[d]?=D (.list cb)->cb.length < a4->zI d ck f live ar vs (σ.set d (.list (cb++ [x])))) (zI d ck f live ar vs σ) b
section
variable (P:c4)(C:Cl)
mutual
noncomputable def dc:E->Loc->St->(V->St->Prop)->Prop
 |.lit v,_,σ,ar=>ar v σ
 |.aq i,J,σ,ar=>pV (c2 J i) fun v=>ar v σ
 |.aV g,_,σ,ar=>pV (P.aV g) fun v=>ar v σ
 |.bad,_,_,_=>True
 |.ab es,J,σ,ar=>qO es J σ fun vs σ=>ar (.ab vs) σ
 |.lst es,J,σ,ar=>qO es J σ fun vs σ=>ar (.lst vs) σ
 |.hC es,J,σ,ar=>qO es J σ fun vs σ=>ar (.obj σ.length) (σ++ [.list vs])
 |.iD k,_,σ,ar=>ar (.obj σ.length) (σ++ [.dict k []])
 |.bin o a b,J,σ,ar=>dc a J σ fun x σ=>dc b J σ fun y σ=>∀⦃z⦄,hM o x y=D z->ar z σ
 |.neg a,J,σ,ar=>dc a J σ fun x σ=>xo x fun i=>ar (.int (-i)) σ
 |.not a,J,σ,ar=>dc a J σ fun x σ=>po σ x fun b=>ar (.bool (!b)) σ
 |.ay o a b,J,σ,ar=>dc a J σ fun x σ=>dc b J σ fun y σ=>∀⦃z⦄,dF σ o x y=D z->ar (.bool z) σ
 |.jo o p a b c,J,σ,ar=>∀⦃v af⦄,aG P C (.jo o p a b c) J σ=D (v,af)->ar v af
 |.and es,J,σ,ar=>DG es J σ ar
 |.or es,J,σ,ar=>DL es J σ ar
 |.ite c a b,J,σ,ar=>dc c J σ fun x σ=>po σ x fun t=>two (dc a J σ ar) (dc b J σ ar) t
 |.attr e a,J,σ,ar=>dc e J σ fun x σ=>lO x fun n=>∀⦃c fs⦄,σ[n]?=D (.inst c fs)->pV (mr fs a) fun v=>ar v σ
 |.sub e i,J,σ,ar=>dc e J σ fun x σ=>dc i J σ fun y σ=>∀⦃v⦄,ee σ x y=D v->ar v σ
 |.slice e lo hi,J,σ,ar=>dc e J σ fun x σ=>DK lo J σ fun a σ=>DK hi J σ fun b σ=>∀⦃v⦄,of σ x a b=D v->ar v σ
 |.call f as,J,σ,ar=>qO as J σ fun vs σ=>∀⦃v af⦄,C f vs σ=D (v,af)->ar v af
 |.new c as,J,σ,ar=>qO as J σ fun vs σ=>pV (P.init c) fun o=>match o with
   |none=>vs=[]->ar (.obj σ.length) (σ++ [.inst c []])
   |some f=>∀⦃aF⦄,C f (.obj σ.length::vs) (σ++ [.inst c []])=D (.none,aF)->ar (.obj σ.length) aF
 |.b6 o m as,J,σ,ar=>dc o J σ fun x σ=>lO x fun n=>∀⦃c fs⦄,σ[n]?=D (.inst c fs)->pV (P.b6 c m) fun f=>qO as J σ fun vs σ=>∀⦃v af⦄,C f (.obj n::vs) σ=D (v,af)->ar v af
 |.len e,J,σ,ar=>dc e J σ fun x σ=>∀⦃v⦄,wV σ x=D v->ar v σ
 |.tuple e,J,σ,ar=>dc e J σ fun x σ=>∀⦃vs⦄,lJ σ x=D vs->vs.length<=a4->ar (.ab vs) σ
 |.sorted e,J,σ,ar=>dc e J σ fun x σ=>∀⦃v⦄,sq σ x=D v->ar v σ
 |.all e,J,σ,ar=>dc e J σ fun x σ=>∀⦃vs av⦄,lJ σ x=D vs->hc vs=D av->ar (.bool (av.all id)) σ
 |.any e,J,σ,ar=>dc e J σ fun x σ=>∀⦃vs av⦄,lJ σ x=D vs->hc vs=D av->ar (.bool (av.any id)) σ
 |.append o x,J,σ,ar=>dc o J σ fun y σ=>lO y fun n=>∀⦃us⦄,σ[n]?=D (.list us)->dc x J σ fun v σ=>∀⦃vs⦄,σ[n]?=D (.list vs)->vs.length < a4->ar .none (σ.set n (.list (vs++ [v])))
 |.extend o x,J,σ,ar=>dc o J σ fun y σ=>lO y fun n=>∀⦃us⦄,σ[n]?=D (.list us)->dc x J σ fun v σ=>∀⦃ws⦄,v= .ab ws->∀⦃vs⦄,σ[n]?=D (.list vs)->vs.length+ws.length < a4->ar .none (σ.set n (.list (vs++ws)))
 |.pop o,J,σ,ar=>dc o J σ fun y σ=>lO y fun n=>∀⦃vs v⦄,σ[n]?=D (.list vs)->vs.length<=a4->vs.getLast?=D v->ar v (σ.set n (.list vs.dropLast))
 |.qW o k,J,σ,ar=>dc o J σ fun y σ=>lO y fun n=>∀⦃aW kvs⦄,σ[n]?=D (.dict aW kvs)->dc k J σ fun k σ=>∀⦃aW kvs⦄,σ[n]?=D (.dict aW kvs)->aW.ok k=ae->ar ((cx kvs k).getD .none) σ
 |.qX o k d,J,σ,ar=>dc o J σ fun y σ=>lO y fun n=>∀⦃aW kvs⦄,σ[n]?=D (.dict aW kvs)->dc k J σ fun k σ=>dc d J σ fun d σ=>∀⦃aW kvs⦄,σ[n]?=D (.dict aW kvs)->aW.ok k=ae->ar ((cx kvs k).getD d) σ
 |.comp x i rng it c,J,σ,ar=>dc it J σ fun y σ=>∀⦃vs⦄,(if rng then ii y else dd σ y)=D vs->
   (∀⦃aF⦄,gH σ.length (fun v aF=>gC P C c (J.set i (D v)) aF) (fun v aF=>aG P C x (J.set i (D v)) aF) (eQ σ y) vs (σ++ [.list []])=D aF->ar (.obj σ.length) aF)/\
   zI σ.length (fun v aF=>DH c (J.set i (D v)) aF) (fun v aF=>dc x (J.set i (D v)) aF) (eQ σ y) (ar (.obj σ.length)) vs (σ++ [.list []])
 |.pB g k d,J,σ,ar=>∀⦃v af⦄,aG P C (.pB g k d) J σ=D (v,af)->ar v af
 |.m8 i j,J,σ,ar=>∀⦃v af⦄,aG P C (.m8 i j) J σ=D (v,af)->ar v af
noncomputable def qO:I E->Loc->St->(I V->St->Prop)->Prop
 |[],_,σ,ar=>ar [] σ
 |e::es,J,σ,ar=>dc e J σ fun v σ=>qO es J σ fun vs σ=>ar (v::vs) σ
noncomputable def DK:aJ E->Loc->St->(aJ O->St->Prop)->Prop
 |none,_,σ,ar=>ar aa σ
 |some e,J,σ,ar=>dc e J σ fun v σ=>xo v fun i=>ar (D i) σ
noncomputable def DH:aJ E->Loc->St->(au->St->Prop)->Prop
 |none,_,σ,ar=>ar ae σ
 |some e,J,σ,ar=>dc e J σ fun v σ=>po σ v fun b=>ar b σ
noncomputable def DG:I E->Loc->St->(V->St->Prop)->Prop
 |[],_,_,_=>True
 |e::es,J,σ,ar=>match es with
  |[]=>dc e J σ ar
  |_::_=>dc e J σ fun v σ=>po σ v fun b=>two (DG es J σ ar) (ar v σ) b
noncomputable def DL:I E->Loc->St->(V->St->Prop)->Prop
 |[],_,_,_=>True
 |e::es,J,σ,ar=>match es with
  |[]=>dc e J σ ar
  |_::_=>dc e J σ fun v σ=>po σ v fun b=>two (ar v σ) (DL es J σ ar) b
end
mutual
noncomputable def DM:S->Loc->St->(ev->Loc->St->Prop)->Prop
 |.set i e,J,σ,ar=>dc P C e J σ fun v σ=>ar .next (J.set i (D v)) σ
 |.rz i e,J,σ,ar=>dc P C e J σ fun v σ=>∀⦃w⦄,yc v=D w->ar .next (J.set i (D w)) σ
 |.mN i j e,J,σ,ar=>dc P C e J σ fun v σ=>Gh v fun a b=>ar .next ((J.set i (D a)).set j (D b)) σ
 |.cT o a e,J,σ,ar=>dc P C e J σ fun v σ=>dc P C o J σ fun x σ=>lO x fun n=>∀⦃c fs⦄,σ[n]?=D (.inst c fs)->(P.fld c a && decide (fs.length < 100))=ae->ar .next J (σ.set n (.inst c (jU fs a v)))
 |.fG o i e,J,σ,ar=>dc P C e J σ fun v σ=>dc P C o J σ fun x σ=>dc P C i J σ fun k σ=>lO x fun n=>(∀⦃aW kvs⦄,σ[n]?=D (.dict aW kvs)->(aW.ok k && decide (kvs.length < a4))=ae->ar .next J (σ.set n (.dict aW (dI kvs k v))))/\
   (∀⦃vs⦄,σ[n]?=D (.list vs)->xo k fun j=>0<=j/\j < vs.length/\vs.length<=a4->ar .next J (σ.set n (.list (vs.set j.toNat v))))
 |.n7 o a p e,J,σ,ar=>dc P C o J σ fun x σ=>lO x fun n=>∀⦃c fs⦄,σ[n]?=D (.inst c fs)->pV (mr fs a) fun u=>dc P C e J σ fun v σ=>∀⦃z⦄,hM p u v=D (.int z)->
   ∀⦃c fs⦄,σ[n]?=D (.inst c fs)->(P.fld c a && decide (fs.length < 100))=ae->ar .next J (σ.set n (.inst c (jU fs a (.int z))))
 |.ret e,J,σ,ar=>dc P C e J σ fun v σ=>ar (.ret v) J σ
 |.iff c a b,J,σ,ar=>dc P C c J σ fun v σ=>po σ v fun t=>two (gd a J σ ar) (gd b J σ ar) t
 |.for i rng it b,J,σ,ar=>dc P C it J σ fun y σ=>∀⦃vs⦄,(if rng then ii y else dd σ y)=D vs->
   (∀⦃fl bt af⦄,h8 (eQ σ y) i (fun J σ=>cQ P C b J σ) vs J σ=D (fl,bt,af)->ar fl bt af)/\zJ (eQ σ y) i (fun J σ=>gd b J σ) ar vs J σ
 |.while n c b,J,σ,ar=>∀⦃fl bt af⦄,l0 (fun J σ=>(aG P C c J σ).bind fun(v,σ)=>(eh σ v).bind fun t=>D (t,σ)) (fun J σ=>cQ P C b J σ) n J σ=D (fl,bt,af)->ar fl bt af
 |.expr e,J,σ,ar=>dc P C e J σ fun v σ=>match v with|.none=>ar .next J σ|.bool _=>ar .next J σ|.int _=>ar .next J σ|.str _=>True|.ab _=>True|.lst _=>True|.obj _=>True
 |.mo o k,J,σ,ar=>dc P C o J σ fun x σ=>dc P C k J σ fun k σ=>lO x fun n=>∀⦃kvs⦄,σ[n]?=D (.dict .t kvs)->(gp.t.ok k && mE kvs k && decide (kvs.length<=a4))=ae->ar .next J (σ.set n (.dict .t (lH kvs k)))
 |.qQ o lo,J,σ,ar=>dc P C o J σ fun x σ=>dc P C lo J σ fun k σ=>lO x fun n=>xo k fun i=>∀⦃vs⦄,σ[n]?=D (.list vs)->0<=i/\vs.length<=a4->ar .next J (σ.set n (.list (vs.take i.toNat)))
 |.cont,J,σ,ar=>ar .cont J σ
 |.bad,_,_,_=>True
noncomputable def gd:I S->Loc->St->(ev->Loc->St->Prop)->Prop
 |[],J,σ,ar=>ar .next J σ
 |s::g6,J,σ,ar=>DM s J σ fun f J σ=>match f with|.next=>gd g6 J σ ar|.brk=>ar .brk J σ|.cont=>ar .cont J σ|.ret v=>ar (.ret v) J σ
end
end
section
variable {P:c4}{C:Cl}
theorem DJ{live:St->au}{i:H}{ui:Loc->St->(ev->Loc->St->Prop)->Prop}{b:Loc->St->Rs}(ax:∀J σ ar,(∀f bt af,b J σ=D (f,bt,af)->ar f bt af)->ui J σ ar){ar:ev->Loc->St->Prop}:
  ∀(vs:I V) (J:Loc) (σ:St),(∀f bt af,h8 live i b vs J σ=D (f,bt,af)->ar f bt af)->zJ live i ui ar vs J σ
 |[],J,σ,h=>fun aj=>h _ _ _ (a7 aj)
 |v::vs,J,σ,h=>fun aj=>ax _ _ _ fun f bt af q=>match f,q with
  |.next,q=>DJ ax vs bt af fun f alG o6 bl=>h _ _ _ ((a7 aj).trans (av q bl))
  |.cont,q=>DJ ax vs bt af fun f alG o6 bl=>h _ _ _ ((a7 aj).trans (av q bl))
  |.brk,q=>h _ _ _ ((a7 aj).trans (av q rfl))
  |.ret v,q=>h _ _ _ ((a7 aj).trans (av q rfl))
theorem DI{d:H}{ck:V->St->(au->St->Prop)->Prop}{f:V->St->(V->St->Prop)->Prop}{JN:V->St->aJ (au×St)}{nf:V->St->aJ (V×St)}{live:St->au}{ar:St->Prop}
  (aE:∀v σ ar,(∀b af,JN v σ=D (b,af)->ar b af)->ck v σ ar) (bH:∀v σ ar,(∀x af,nf v σ=D (x,af)->ar x af)->f v σ ar):
  ∀(vs:I V) (σ:St),(∀aF,gH d JN nf live vs σ=D aF->ar aF)->zI d ck f live ar vs σ
 |[],σ,h=>fun aj=>h _ (a7 aj)
 |v::vs,σ,h=>fun aj=>aE _ _ _ fun b aC a6=>match b,a6 with
  |true,a6=>bH _ _ _ fun x bn bl cb cF xa=>DI aE bH vs _ fun aF eV=>h _ ((a7 aj).trans (av a6 (av bl (by dsimp only;rw[cF];exact(a7 xa).trans eV))))
  |false,a6=>DI aE bH vs aC fun aF eV=>h _ ((a7 aj).trans (av a6 eV))
theorem Fc{σ:St}{n:H}{us:I V}(h:σ[n]?=D (.list us)):re σ (.obj n)=ae:=by unfold re;dsimp only;rw[h]
theorem Mf{σ:St}{n:H}{k:gp}{us:I (V×V)}(h:σ[n]?=D (.dict k us)):rc σ (.obj n)=ae:=by unfold rc;dsimp only;rw[h]
theorem xN{α:Type}{b:au}{x y:α}(h:b=ae):(if(!b)=ae then x else y)=y:=by rw[h];rfl
mutual
theorem di:∀(e:E) (J:Loc) (σ:St) (ar:V->St->Prop),(∀v af,aG P C e J σ=D (v,af)->ar v af)->dc P C e J σ ar
 |.lit v,_,σ,ar,h=>h _ _ rfl
 |.aq i,J,σ,ar,h=>rs fun v q=>h _ _ (av q rfl)
 |.aV g,_,σ,ar,h=>rs fun v q=>h _ _ (av q rfl)
 |.bad,_,_,_,h=>trivial
 |.ab es,J,σ,ar,h=>sd es J σ _ fun vs af q=>h _ _ (av q rfl)
 |.lst es,J,σ,ar,h=>sd es J σ _ fun vs af q=>h _ _ (av q rfl)
 |.hC es,J,σ,ar,h=>sd es J σ _ fun vs af q=>h _ _ (av q rfl)
 |.iD k,_,σ,ar,h=>h _ _ rfl
 |.bin o a b,J,σ,ar,h=>di a J σ _ fun x aC a6=>di b J aC _ fun y bn bl z cF=>h _ _ (av a6 (av bl (av cF rfl)))
 |.neg a,J,σ,ar,h=>di a J σ _ fun x aC a6=>Az fun n e=>by subst e;exact h _ _ (av a6 rfl)
 |.not a,J,σ,ar,h=>di a J σ _ fun x aC a6=>ul fun b bl=>h _ _ (av a6 (av bl rfl))
 |.ay o a b,J,σ,ar,h=>di a J σ _ fun x aC a6=>di b J aC _ fun y bn bl z cF=>h _ _ (av a6 (av bl (av cF rfl)))
 |.jo ..,_,_,_,h=>h
 |.and es,J,σ,ar,h=>JY es J σ ar h
 |.or es,J,σ,ar,h=>J1 es J σ ar h
 |.ite c a b,J,σ,ar,h=>di c J σ _ fun x aC a6=>ul fun t bl=>B4 (fun e=>by subst e;exact di a J aC _ fun v af q=>h _ _ (av a6 (av bl q))) (fun e=>by subst e;exact di b J aC _ fun v af q=>h _ _ (av a6 (av bl q)))
 |.attr e a,J,σ,ar,h=>di e J σ _ fun x aC a6=>mK fun n e c fs bl=>rs fun v cF=>h _ _ (av a6 (by subst e;dsimp only;rw[bl];exact av cF rfl))
 |.sub e i,J,σ,ar,h=>di e J σ _ fun x aC a6=>di i J aC _ fun y bn bl z cF=>h _ _ (av a6 (av bl (av cF rfl)))
 |.slice e lo hi,J,σ,ar,h=>di e J σ _ fun x aC a6=>J0 lo J aC _ fun a bn bl=>J0 hi J bn _ fun b ct cF v eV=>h _ _ (av a6 (av bl (av cF (av eV rfl))))
 |.call f as,J,σ,ar,h=>sd as J σ _ fun vs aC a6 v af bl=>h _ _ (av a6 bl)
 |.new c as,J,σ,ar,h=>sd as J σ _ fun vs aC a6=>rs fun o bl=>match o,bl with
  |none,bl=>fun e=>h _ _ (av a6 (by subst e;dsimp only;rw[bl]))
  |some f,bl=>fun aF cF=>h _ _ (av a6 (by dsimp only;rw[bl];exact av cF rfl))
 |.b6 o m as,J,σ,ar,h=>di o J σ _ fun x aC a6=>mK fun n e c fs bl=>rs fun f cF=>sd as J aC _ fun vs bn eV v af nJ=>h _ _ (av a6 (by subst e;dsimp only;rw[bl];dsimp only;rw[cF];exact av eV nJ))
 |.len e,J,σ,ar,h=>di e J σ _ fun x aC a6 v bl=>h _ _ (av a6 (av bl rfl))
 |.tuple e,J,σ,ar,h=>di e J σ _ fun x aC a6 vs bl aj=>h _ _ (av a6 (av bl (a7 aj)))
 |.sorted e,J,σ,ar,h=>di e J σ _ fun x aC a6 v bl=>h _ _ (av a6 (av bl rfl))
 |.all e,J,σ,ar,h=>di e J σ _ fun x aC a6 vs iW bl cF=>h _ _ (av a6 (av bl (av cF rfl)))
 |.any e,J,σ,ar,h=>di e J σ _ fun x aC a6 vs iW bl cF=>h _ _ (av a6 (av bl (av cF rfl)))
 |.append o x,J,σ,ar,h=>di o J σ _ fun y aC a6=>mK fun n e us bl=>di x J aC _ fun v bn cF vs eV aj=>h _ _ (av a6 (by subst e;exact(xN (Fc bl)).trans (av cF (by dsimp only;rw[eV];exact a7 aj))))
 |.extend o x,J,σ,ar,h=>di o J σ _ fun y aC a6=>mK fun n e us bl=>di x J aC _ fun v bn cF ws aX vs eV aj=>h _ _ (av a6 (by subst e aX;exact(xN (Fc bl)).trans (av cF (by dsimp only;rw[eV];exact a7 aj))))
 |.pop o,J,σ,ar,h=>di o J σ _ fun y aC a6=>mK fun n e vs v bl aj cF=>h _ _ (av a6 (by subst e;dsimp only;rw[bl];dsimp only;rw[a7 aj,cF]))
 |.qW o k,J,σ,ar,h=>di o J σ _ fun y aC a6=>mK fun n e aW us bl=>di k J aC _ fun v bn cF aW vs eV aj=>h _ _ (av a6 (by subst e;exact(xN (Mf bl)).trans (av cF (by dsimp only;rw[eV];exact a7 aj))))
 |.qX o k d,J,σ,ar,h=>di o J σ _ fun y aC a6=>mK fun n e aW us bl=>di k J aC _ fun v bn cF=>di d J bn _ fun w ct nJ aW vs eV aj=>h _ _ (av a6 (by subst e;exact(xN (Mf bl)).trans (av cF (av nJ (by dsimp only;rw[eV];exact a7 aj)))))
 |.comp x i rng it c,J,σ,ar,h=>di it J σ _ fun y aC a6 vs bl=>⟨fun aF cF=>h _ _ (av a6 (av bl (av cF rfl))),
   DI (fun v σ ar h=>JZ c (J.set i (D v)) σ ar h) (fun v σ ar h=>di x (J.set i (D v)) σ ar h) vs (aC++ [.list []]) fun aF cF=>h (.obj aC.length) aF (av a6 (av bl (av cF rfl)))⟩
 |.pB ..,_,_,_,h=>h
 |.m8 ..,_,_,_,h=>h
theorem sd:∀(es:I E) (J:Loc) (σ:St) (ar:I V->St->Prop),(∀v af,e3 P C es J σ=D (v,af)->ar v af)->qO P C es J σ ar
 |[],_,_,_,h=>h _ _ rfl
 |e::es,J,σ,ar,h=>di e J σ _ fun v aC a6=>sd es J aC _ fun vs bn bl=>h _ _ (av a6 (av bl rfl))
theorem J0:∀(e:aJ E) (J:Loc) (σ:St) (ar:aJ O->St->Prop),(∀v af,uA P C e J σ=D (v,af)->ar v af)->DK P C e J σ ar
 |none,_,_,_,h=>h _ _ rfl
 |some e,J,σ,ar,h=>di e J σ _ fun v aC a6=>Az fun n e=>by subst e;exact h _ _ (av a6 rfl)
theorem JZ:∀(e:aJ E) (J:Loc) (σ:St) (ar:au->St->Prop),(∀v af,gC P C e J σ=D (v,af)->ar v af)->DH P C e J σ ar
 |none,_,_,_,h=>h _ _ rfl
 |some e,J,σ,ar,h=>di e J σ _ fun v aC a6=>ul fun b bl=>h _ _ (av a6 (av bl rfl))
theorem JY:∀(es:I E) (J:Loc) (σ:St) (ar:V->St->Prop),(∀v af,wU P C es J σ=D (v,af)->ar v af)->DG P C es J σ ar
 |[],_,_,_,h=>trivial
 |[e],J,σ,ar,h=>di e J σ ar h
 |e::f::es,J,σ,ar,h=>di e J σ _ fun v aC a6=>ul fun b bl=>B4 (fun e=>by subst e;exact JY (f::es) J aC ar fun v bn cF=>h _ _ (av a6 (av bl cF))) (fun e=>by subst e;exact h _ _ (av a6 (av bl rfl)))
theorem J1:∀(es:I E) (J:Loc) (σ:St) (ar:V->St->Prop),(∀v af,wW P C es J σ=D (v,af)->ar v af)->DL P C es J σ ar
 |[],_,_,_,h=>trivial
 |[e],J,σ,ar,h=>di e J σ ar h
 |e::f::es,J,σ,ar,h=>di e J σ _ fun v aC a6=>ul fun b bl=>B4 (fun e=>by subst e;exact h _ _ (av a6 (av bl rfl))) (fun e=>by subst e;exact J1 (f::es) J aC ar fun v bn cF=>h _ _ (av a6 (av bl cF)))
end
mutual
theorem J2:∀(s:S) (J:Loc) (σ:St) (ar:ev->Loc->St->Prop),(∀f bt af,gI P C s J σ=D (f,bt,af)->ar f bt af)->DM P C s J σ ar
 |.set i e,J,σ,ar,h=>di e J σ _ fun v aC a6=>h _ _ _ (av a6 rfl)
 |.rz i e,J,σ,ar,h=>di e J σ _ fun v aC a6 w bl=>h _ _ _ (av a6 (av bl rfl))
 |.mN i j e,J,σ,ar,h=>di e J σ _ fun v aC a6=>aeh fun a b e=>by subst e;exact h _ _ _ (av a6 rfl)
 |.cT o a e,J,σ,ar,h=>di e J σ _ fun v aC a6=>di o J aC _ fun x bn bl=>mK fun n e c fs cF bH=>h _ _ _ (av a6 (av bl (by subst e;dsimp only;rw[cF];exact a7 bH)))
 |.fG o i e,J,σ,ar,h=>di e J σ _ fun v aC a6=>di o J aC _ fun x bn bl=>di i J bn _ fun k ct cF=>mK fun n e=>⟨fun aW kvs eV bH=>h _ _ _ (av a6 (av bl (av cF (by subst e;dsimp only;rw[eV];exact a7 bH)))),
    fun vs eV=>Az fun j aX bH=>h _ _ _ (av a6 (av bl (av cF (by subst e aX;dsimp only;rw[eV];exact a7 bH))))⟩
 |.n7 o a p e,J,σ,ar,h=>di o J σ _ fun x aC a6=>mK fun n aT c fs bl=>rs fun u cF=>di e J aC _ fun v bn eV z nJ bT alV Bw bH=>h _ _ _ (av a6 (by subst aT;dsimp only;rw[bl];exact av cF (av eV (av nJ (by dsimp only;rw[Bw];exact a7 bH)))))
 |.ret e,J,σ,ar,h=>di e J σ _ fun v aC a6=>h _ _ _ (av a6 rfl)
 |.iff c a b,J,σ,ar,h=>di c J σ _ fun x aC a6=>ul fun t bl=>B4 (fun e=>by subst e;exact uk a J aC _ fun f bt af q=>h _ _ _ (av a6 (av bl q))) (fun e=>by subst e;exact uk b J aC _ fun f bt af q=>h _ _ _ (av a6 (av bl q)))
 |.for i rng it b,J,σ,ar,h=>di it J σ _ fun y aC a6 vs bl=>⟨fun fl bt af cF=>h _ _ _ (av a6 (av bl cF)),DJ (fun J σ ar h=>uk b J σ ar h) vs J aC fun fl bt af cF=>h _ _ _ (av a6 (av bl cF))⟩
 |.while ..,_,_,_,h=>h
 |.expr e,J,σ,ar,h=>di e J σ _ fun v aC a6=>match v,a6 with
  |.none,a6=>h _ _ _ (av a6 rfl)
  |.bool _,a6=>h _ _ _ (av a6 rfl)
  |.int _,a6=>h _ _ _ (av a6 rfl)
  |.str _,_=>trivial
  |.ab _,_=>trivial
  |.lst _,_=>trivial
  |.obj _,_=>trivial
 |.mo o k,J,σ,ar,h=>di o J σ _ fun x aC a6=>di k J aC _ fun k bn bl=>mK fun n e kvs cF bH=>h _ _ _ (av a6 (av bl (by subst e;dsimp only;rw[cF];exact a7 bH)))
 |.qQ o lo,J,σ,ar,h=>di o J σ _ fun x aC a6=>di lo J aC _ fun k bn bl=>mK fun n e=>Az fun i aX vs cF bH=>h _ _ _ (av a6 (av bl (by subst e aX;dsimp only;rw[cF];exact a7 bH)))
 |.cont,_,_,_,h=>h _ _ _ rfl
 |.bad,_,_,_,_=>trivial
theorem uk:∀(g6:I S) (J:Loc) (σ:St) (ar:ev->Loc->St->Prop),(∀f bt af,cQ P C g6 J σ=D (f,bt,af)->ar f bt af)->gd P C g6 J σ ar
 |[],_,_,_,h=>h _ _ _ rfl
 |s::g6,J,σ,ar,h=>J2 s J σ _ fun f mU aC a6=>match f,a6 with
  |.next,a6=>uk g6 mU aC ar fun f bt af q=>h _ _ _ (av a6 q)
  |.brk,a6=>h _ _ _ (av a6 rfl)
  |.cont,a6=>h _ _ _ (av a6 rfl)
  |.ret v,a6=>h _ _ _ (av a6 rfl)
end
theorem jB(P:c4)(C:Cl)(e:E)(J:Loc)(σ:St):dc P C e J σ fun v af=>aG P C e J σ=D (v,af):=di e J σ _ fun _ _ h=>h
theorem g4(P:c4)(C:Cl)(g6:I S)(J:Loc)(σ:St):gd P C g6 J σ fun f bt af=>cQ P C g6 J σ=D (f,bt,af):=uk g6 J σ _ fun _ _ _ h=>h
end
theorem k0{m f:H}{F:b7}{vs:I V}{σ af:St}{J bt:Loc}{fl:ev}{v:V}(dZ:PP.fn f=D F)(he:enter F vs=D J)(ax:cQ PP (az PP m) F.body J σ=D (fl,bt,af))
  (aH:(match fl with|.ret v=>D v|.next=>D .none|_=>aa)=D v):az PP (m+1) f vs σ=D (v,af):=av dZ (av he (av ax (by cases fl <;>cases aH <;>rfl)))
noncomputable def nv(m f:H)(vs:I V)(σ:St):ev->Loc->St->Prop:=fun fl _ af=>match fl with
 |.ret v=>az PP (m+1) f vs σ=D (v,af)
 |.next=>az PP (m+1) f vs σ=D (.none,af)
 |.brk=>True
 |.cont=>True
noncomputable def Wx(m f:H)(vs:I V)(σ:St):Prop:=pV (PP.fn f) fun F=>pV (enter F vs) fun J=>gd PP (az PP m) F.body J σ (nv m f vs σ)
theorem run(m f:H)(vs:I V)(σ:St):Wx m f vs σ:=rs fun F dZ=>rs fun J LZ=>uk _ _ _ _ fun fl bt af q=>match fl,q with
  |.ret v,q=>k0 dZ LZ q rfl
  |.next,q=>k0 dZ LZ q rfl
  |.brk,_=>trivial
  |.cont,_=>trivial
theorem cz{σ:St}{vs:I V}:ee σ (.ab vs) (.int 0)=vs[0]?:=rfl
theorem hD{σ:St}{vs:I V}:ee σ (.ab vs) (.int 1)=vs[1]?:=rfl
theorem lh{σ:St}{vs:I V}:ee σ (.ab vs) (.int 2)=vs[2]?:=rfl
theorem BU{σ:St}{vs:I V}:ee σ (.ab vs) (.int 3)=vs[3]?:=rfl
theorem vG{σ:St}{vs:I V}:ee σ (.ab vs) (.int 4)=vs[4]?:=rfl
theorem p3{σ:St}{vs:I V}:ee σ (.ab vs) (.int 5)=vs[5]?:=rfl
theorem p4{σ:St}{vs:I V}:ee σ (.ab vs) (.int 6)=vs[6]?:=rfl
theorem PE{σ:St}{v:V}{vs:I V}(h:vs.length < 50):ee σ (.ab (v::vs)) (.int (-1))=(v::vs)[vs.length]?:=by
 have aN:(-100:O)<= -1/\0<= -1+((v::vs).length:O):=by rw[qd];omega
 have b1:(-1+((v::vs).length:O)).toNat=vs.length:=by rw[qd];omega
 show q9 (v::vs) (-1)=_
 unfold q9
 rw[a7 (by decide),bz (by decide),a7 aN,b1]
theorem Xw{σ:St}{vs:I V}{i:O}:ee σ (.ab vs) (.int i)=q9 vs i:=by unfold ee;dsimp only;rw[show(V.int i).int?=D i from rfl,tV]
theorem aiO{vs:I V}{i:O}(h:0<=i/\i < a4):B6 vs (.int i)=vs[i.toNat]?:=(a7 h:(if 0<=i/\i < a4 then vs[i.toNat]? else aa)=_)
theorem rE{σ:St}{n i:H}{vs:I V}(h:σ[n]?=D (.list vs))(hi:i < a4):ee σ (.obj n) (.int (i:O))=vs[i]?:=by
 have q:=aiO (vs:=vs) (i:=(i:O)) ⟨kd i,fv.mpr hi⟩
 rw[Cj]at q
 rw[<-q]
 unfold ee;dsimp only;rw[h,tV]
section
variable {P:c4}{C:Cl}{J d6 bt:Loc}{σ aM af:St}
theorem de{s:S}{g6:I S}{r:Rs}(h:gI P C s J σ=D (.next,d6,aM))(bg:cQ P C g6 d6 aM=r):cQ P C (s::g6) J σ=r:=(av h bg:(gI P C s J σ).bind _=r)
theorem GJ{s:S}{g6:I S}{v:V}(h:gI P C s J σ=D (.ret v,d6,aM)):cQ P C (s::g6) J σ=D (.ret v,d6,aM):=(av h rfl:(gI P C s J σ).bind _=_)
theorem KX{i:H}{rng:au}{it:E}{b:I S}{y:V}{vs:I V}{fl:ev}(ag:aG P C it J σ=D (y,aM))(ah:(if rng then ii y else dd aM y)=D vs)
  (aN:h8 (eQ aM y) i (fun J σ=>cQ P C b J σ) vs J aM=D (fl,bt,af)):gI P C (.for i rng it b) J σ=D (fl,bt,af):=(av ag (av ah aN):(aG P C it J σ).bind _=_)
theorem et{i:H}{e:E}{v:V}(ag:aG P C e J σ=D (v,af)):gI P C (.set i e) J σ=D (.next,J.set i (D v),af):=(av ag rfl:(aG P C e J σ).bind _=_)
theorem E0{c:E}{a b:I S}{v:V}{r:Rs}(ag:aG P C c J σ=D (v,aM))(ah:eh aM v=D ae)(aN:cQ P C a J aM=r):gI P C (.iff c a b) J σ=r:=(av ag (av ah aN):(aG P C c J σ).bind _=_)
theorem L1{c:E}{a b:I S}{v:V}{r:Rs}(ag:aG P C c J σ=D (v,aM))(ah:eh aM v=D aw)(aN:cQ P C b J aM=r):gI P C (.iff c a b) J σ=r:=(av ag (av ah aN):(aG P C c J σ).bind _=_)
theorem wN{x:E}{i:H}{rng:au}{it:E}{c:aJ E}{y:V}{vs:I V}(ag:aG P C it J σ=D (y,aM))(ah:(if rng then ii y else dd aM y)=D vs)
  (aN:gH aM.length (fun v aF=>gC P C c (J.set i (D v)) aF) (fun v aF=>aG P C x (J.set i (D v)) aF) (eQ aM y) vs (aM++ [.list []])=D af):aG P C (.comp x i rng it c) J σ=D (.obj aM.length,af):=(av ag (av ah (av aN rfl)):(aG P C it J σ).bind _=_)
end
structure ak where
 rows:I V
 bounds:I O
 defaults:I V
 names:I V
 decls:I (H×O)
noncomputable def ou(rows:I V):I (V×V):=rows.zipIdx.map fun p=>(p.1,.int (p.2:H))
noncomputable def PK:I (H×V):=[(0,.obj 3),(1,.obj 4),(2,.obj 5),(3,.obj 6),(4,.obj 7),(5,.obj 8),(6,.obj 9),(7,.obj 10),(8,.int 0),(9,.int 0)]
noncomputable def wQ(n:H)(h5:O)(name:V)(b:O):I (H×V):=[(11,.int h5),(12,.int 2),(13,name),(14,.ab []),(15,.int b),(16,.ab []),(17,.int (-1)),(18,.int 0),(19,.bool aw),(20,.obj (n+1)),(21,.obj (n+2)),(22,.int 0),(23,.int 0),(24,.str ⟨#[]⟩),(25,.int 0)]
structure TabAt(σ:St)(T:ak):Prop where
 bT:σ[2]?=D (.inst 1 PK)
 hv:σ[3]?=D (.list T.rows)
 i9:σ[4]?=D (.dict .t (ou T.rows))
 km:σ[5]?=D (.list (.none::T.decls.map fun p=> .obj p.1))
 h2:σ[6]?=D (.list (T.bounds.map .int))
 qK:σ[7]?=D (.list T.defaults)
 ml:σ[8]?=D (.list T.names)
 dec:∀(j k:H) (b:O),T.decls[j]?=D (k,b)->∃(n:H) (h5:O) (name:V),σ[k]?=D (.inst 2 (wQ n h5 name b))/\20 < k
 pure:∀r∈T.rows,r.isTup=ae/\r.pure=ae
 nodup:T.rows.Nodup
theorem TabAt.sub{σ:St}{T:ak}(h:TabAt σ T){t:H}(aP:t < a4):ee σ (.obj 3) (.int (t:O))=T.rows[t]?:=rE h.hv aP
noncomputable def bx(S:I H)(σ af:St):Prop:=σ.length<=af.length/\∀i,i < σ.length->i∉S->af[i]?=σ[i]?
theorem bx.refl(S:I H)(σ:St):bx S σ σ:=⟨dm _,fun _ _ _=>rfl⟩
theorem bx.trans{S:I H}{σ aM bS:St}(a:bx S σ aM)(b:bx S aM bS):bx S σ bS:=⟨cp a.1 b.1,fun i h n=>(b.2 i (gm h a.1) n).trans (a.2 i h n)⟩
theorem bx.get{S:I H}{σ af:St}(a:bx S σ af){i:H}{c:Cell}(h:σ[i]?=D c)(n:i∉S):af[i]?=D c:=(a.2 i (fj.mp h).1 n).trans h
noncomputable def ak.pos(T:ak)(row:V):H:=T.rows.idxOf row
noncomputable def ak.put(T:ak)(row:V):ak:=if row∈T.rows then T else{T with rows:=T.rows++ [row]}
noncomputable def gi(T:ak)(row:V)(σ:St):St:=if row∈T.rows then σ else(σ.set 3 (.list (T.rows++ [row]))).set 4 (.dict .t (ou (T.rows++ [row])))
theorem MH:∀(rows:I V) (k:H) (row:V),cx ((rows.zipIdx k).map fun p=>(p.1,V.int (p.2:H))) row=if row∈rows then D (.int ((k+rows.idxOf row:H):O))else aa
 |[],k,row=>by simp[cx]
 |r::rows,k,row=>by
  simp only[akd,eI,cx]
  by_cases e:r=row
  ·subst e;simp
  ·have cH:¬row=r:=fun q=>e q.symm
   simp only[e,kR]
   rw[MH rows (k+1) row]
   simp only[dj,cH,false_or]
   split
   ·congr 2
    rw[List.idxOf_cons]
    have:(r==row)=aw:=by simpa using e
    simp only[this,cond_false]
    omega
   ·rfl
theorem abT(rows:I V)(row:V):cx (ou rows) row=if row∈rows then D (.int ((rows.idxOf row:H):O))else aa:=by
 have:=MH rows 0 row
 simpa[ou]using this
theorem xw:∀(l:I (V×V)) (k v:V),cx l k=aa->dI l k v=l++ [(k,v)]
 |[],_,_,_=>rfl
 |(a,u)::r,k,v,h=>by
  by_cases e:a=k
  ·simp[cx,e]at h
  ·simp only[cx,e,kR]at h
   simp[dI,e,xw r k v h]
theorem aa4(rows:I V)(row:V):ou (rows++ [row])=ou rows++ [(row,.int (rows.length:H))]:=by
 simp[ou,List.zipIdx_append]
section
variable {live:St->au}{i d:H}{b:Loc->St->Rs}{ck:V->St->aJ (au×St)}{f:V->St->aJ (V×St)}{v w x:V}{vs cb:I V}{J mU:Loc}{σ aC bn aF:St}{r:Rs}
theorem sr(aj:live σ=ae):h8 live i b [] J σ=D (.next,J,σ):=a7 aj
theorem mu(aj:live σ=ae)(h:b (J.set i (D v)) σ=D (.next,mU,aC))(bg:h8 live i b vs mU aC=r):h8 live i b (v::vs) J σ=r:=(a7 aj).trans (av h bg)
theorem Ef(aj:live σ=ae)(h:b (J.set i (D v)) σ=D (.ret w,mU,aC)):h8 live i b (v::vs) J σ=D (.ret w,mU,aC):=(a7 aj).trans (av h rfl)
theorem zE(aj:live σ=ae):gH d ck f live [] σ=D σ:=a7 aj
theorem zD(aj:live σ=ae)(ag:ck v σ=D (ae,aC))(ah:f v aC=D (x,bn))(aN:bn[d]?=D (.list cb))(b1:cb.length < a4)(h:gH d ck f live vs (bn.set d (.list (cb++ [x])))=D aF):gH d ck f live (v::vs) σ=D aF:=(a7 aj).trans (av ag (av ah (by dsimp only;rw[aN];exact(a7 b1).trans h)))
theorem JW(aj:live σ=ae)(ag:ck v σ=D (aw,aC))(h:gH d ck f live vs aC=D aF):gH d ck f live (v::vs) σ=D aF:=(a7 aj).trans (av ag h)
theorem Qt{c:Loc->St->aJ (au×St)}{n:H}(aE:c J σ=D (aw,aC)):l0 c b (n+1) J σ=D (.next,J,aC):=av aE rfl
theorem Qs{c:Loc->St->aJ (au×St)}{n:H}{R5:Loc}(aE:c J σ=D (ae,aC))(ax:b J aC=D (.next,R5,bn))(bg:l0 c b n R5 bn=r):l0 c b (n+1) J σ=r:=av aE (av ax bg)
theorem fP{σ:St}{c:Cell}:(σ++ [c])[σ.length]?=D c:=by rw[lq (dm _),o2];rfl
theorem p2{σ:St}{c e:Cell}:(σ++ [c]).set σ.length e=σ++ [e]:=by rw[v6 _ _ (dm _),o2];rfl
end
section
variable {σ:St}{x y:O}{a:V}{n k:H}{c d:Cell}{b:au}
theorem eqT(h:x=y):dF σ .eq (.int x) (.int y)=D ae:=bs D (cW h)
theorem bf(h:x≠y):dF σ .eq (.int x) (.int y)=D aw:=bs D (ek h)
theorem neT(h:x≠y):dF σ .ne (.int x) (.int y)=D ae:=bs (fun b=>D (!b)) (ek h)
theorem k7(h:x=y):dF σ .ne (.int x) (.int y)=D aw:=bs (fun b=>D (!b)) (cW h)
theorem sV(h:x < y):dF σ .lt (.int x) (.int y)=D ae:=bs D (cW h)
theorem lL(h:¬x < y):dF σ .lt (.int x) (.int y)=D aw:=bs D (ek h)
theorem uJ(h:y<=x):dF σ .ge (.int x) (.int y)=D ae:=bs D (cW h)
theorem oh(h:¬y<=x):dF σ .ge (.int x) (.int y)=D aw:=bs D (ek h)
theorem Ac(h:y < x):dF σ .gt (.int x) (.int y)=D ae:=bs D (cW h)
theorem Ab(h:¬y < x):dF σ .gt (.int x) (.int y)=D aw:=bs D (ek h)
theorem FJ{aW:gp}{kvs:I (V×V)}(h:σ[n]?=D (.dict aW kvs))(am:aW.ok a=ae):dF σ .mem a (.obj n)=D (cx kvs a).isSome:=by
 show tK σ a (.obj n)=_
 unfold tK;dsimp only;rw[h];exact a7 am
theorem A2{aW:gp}{kvs:I (V×V)}{v:V}(h:σ[n]?=D (.dict aW kvs))(am:aW.ok a=ae)(ax:cx kvs a=D v):dF σ .mem a (.obj n)=D ae:=(FJ h am).trans (by rw[ax];rfl)
theorem vb{aW:gp}{kvs:I (V×V)}(h:σ[n]?=D (.dict aW kvs))(am:aW.ok a=ae)(ax:cx kvs a=aa):dF σ .mem a (.obj n)=D aw:=(FJ h am).trans (by rw[ax];rfl)
theorem FK{vs:I V}(ao:(a.pure && V.fS vs)=ae)(ax:a∈vs):dF σ .mem a (.ab vs)=D ae:=(a7 ao).trans (bs D (cW ax))
theorem A3{vs:I V}(ao:(a.pure && V.fS vs)=ae)(ax:a∉vs):dF σ .mem a (.ab vs)=D aw:=(a7 ao).trans (bs D (ek ax))
theorem G2{aW:gp}{kvs:I (V×V)}{v:V}(h:σ[n]?=D (.dict aW kvs))(am:aW.ok a=ae)(bR:cx kvs a=D v):ee σ (.obj n) a=D v:=by
 unfold ee;dsimp only;rw[h]
 cases a <;>exact(a7 am).trans bR
theorem mH{vs:I V}(h:σ[n]?=D (.list vs))(aj:vs.length<=a4):wV σ (.obj n)=D (.int vs.length):=by
 show((σ[n]?.bind Cell.kA).bind _)=_
 rw[h];exact a7 aj
theorem sR{vs:I V}{l:H}(h:σ[n]?=D (.list vs))(e:vs.length=l)(aj:l<=a4):wV σ (.obj n)=D (.int l):=by
 subst e;exact mH h aj
theorem Hb{vs:I V}(h:σ[n]?=D (.list vs))(aj:vs.length<=a4):eh σ (.obj n)=D (!vs.isEmpty):=by
 show((σ[n]?.bind Cell.kA).bind _)=_
 rw[h];exact a7 aj
theorem k4{vs:I V}(h:σ[n]?=D (.list vs)):lJ σ (.obj n)=D vs:=by
 show(σ[n]?.bind Cell.kA)=_
 rw[h];rfl
theorem sM{vs:I V}(h:σ[n]?=D (.list vs)):dd σ (.obj n)=D vs:=by
 show(σ[n]?.bind Cell.kA)=_
 rw[h];rfl
theorem c6(h:σ[n]?=D c)(aZ:k≠n):(σ.set k d)[n]?=D c:=(nW aZ).trans h
theorem h9(h:σ[n]?=D c):(σ.set n d)[n]?=D d:=rS (fj.mp h).1
theorem Fa{k:O}{l:I O}:V.int k∈l.map V.int↔k∈l:=⟨fun h=>by obtain⟨a,h,e⟩:=dk.mp h;cases e;exact h,rT⟩
theorem tv:∀(l:I O),V.fS (l.map .int)=ae
 |[]=>rfl
 |_::l=>tv l
theorem jy{k:O}(l:I O)(h:k∈l):dF σ .mem (.int k) (.ab (l.map .int))=D ae:=FK (tv l) (Fa.mpr h)
theorem je{k:O}(l:I O)(h:k∉l):dF σ .mem (.int k) (.ab (l.map .int))=D aw:=A3 (tv l) fun q=>h (Fa.mp q)
theorem al9{k:O}(l:I O):dF σ .mem (.int k) (.ab (l.map .int))=D (decide (k∈l)):=by
 by_cases h:k∈l
 ·rw[cW h];exact jy l h
 ·rw[ek h];exact je l h
theorem adf{k:O}(l:I O)(h:k∉l):dF σ .kB (.int k) (.ab (l.map .int))=D ae:=bs (tW (!·)) (je (σ:=σ) l h)
theorem FS{k:O}(l:I O)(h:k∈l):dF σ .kB (.int k) (.ab (l.map .int))=D aw:=bs (tW (!·)) (jy (σ:=σ) l h)
theorem A5{x y:O}(h:0 < y):hM .mod (.int x) (.int y)=D (.int (x % y)):=a7 h
theorem Ff{r:V}(ag:r.isTup=ae)(ah:r.pure=ae):gp.t.ok r=ae:=ei.mpr ⟨ag,ah⟩
end
theorem rv{m:H}{σ:St}{T:ak}{row:V}(h:TabAt σ T)(ag:row.isTup=ae)(ah:row.pure=ae)(hz:T.rows.length < a4):
  az PP (m+1) 3 [.obj 2,row] σ=D (.int (T.pos row:H),gi T row σ):=by
 have am:=Ff ag ah
 have g:=abT T.rows row
 by_cases e:row∈T.rows
 ·rw[a7 e]at g
  unfold gi
  rw[a7 e]
  exact run m 3 [.obj 2,row] σ h.bT (A2 h.i9 am g) h.bT (G2 h.i9 am g)
 ·rw[bz e]at g
  unfold gi ak.pos
  rw[bz e,Q7 e,aa4,<-xw _ _ _ g]
  exact(run m 3 [.obj 2,row] σ h.bT (vb h.i9 am g) h.bT (mH h.hv (kf hz)) h.bT h.hv h.hv hz (c6 h.bT (by decide))).1 (c6 h.i9 (by decide)) (ei.mpr ⟨am,cW (by rw[ou,d5,List.length_zipIdx];exact hz)⟩)
theorem bx.set{S:I H}{σ:St}{i:H}{c:Cell}(h:i∈S):bx S σ (σ.set i c):=⟨by simp,fun j _ cg=>nW (by rintro rfl;exact cg h)⟩
theorem bx.dC{S iu:I H}{σ af:St}(a:bx S σ af)(h:∀i∈S,i∈iu):bx iu σ af:=⟨a.1,fun i l n=>a.2 i l fun q=>n (h i q)⟩
theorem bx.append{S:I H}{σ g:St}:bx S σ (σ++g):=⟨by simp,fun i h _=>jJ h⟩
theorem TabAt.same{S:I H}{σ af:St}{T:ak}(h:TabAt σ T)(a:bx S σ af)(kq:∀i∈S,i < 2\/(8 < i/\i<=20)\/(20 < i/\∀(j k:H) (b:O),T.decls[j]?=D (k,b)->k≠i)):TabAt af T:=by
 have no:∀i,2<=i->i<=8->i∉S:=fun i ag ah q=>by rcases kq i q with z|z|z <;>omega
 refine⟨a.get h.bT (no _ (by omega) (by omega)),a.get h.hv (no _ (by omega) (by omega)),a.get h.i9 (no _ (by omega) (by omega)),a.get h.km (no _ (by omega) (by omega)),a.get h.h2 (no _ (by omega) (by omega)),a.get h.qK (no _ (by omega) (by omega)),a.get h.ml (no _ (by omega) (by omega)),fun j k b e=> ?_,h.pure,h.nodup⟩
 obtain⟨n,h5,nm,ag,ah⟩:=h.dec j k b e
 refine⟨n,h5,nm,a.get ag fun q=> ?_,ah⟩
 rcases kq k q with z|z|z
 ·omega
 ·omega
 ·exact z.2 j k b e rfl
theorem TabAt.put{σ:St}{T:ak}{row:V}(h:TabAt σ T)(ag:row.isTup=ae)(ah:row.pure=ae):TabAt (gi T row σ) (T.put row)/\bx [3,4] σ (gi T row σ):=by
 unfold gi ak.put
 split
 ·exact⟨h,bx.refl ..⟩
 ·rename_i e
  have s:bx [3,4] σ ((σ.set 3 (.list (T.rows++ [row]))).set 4 (.dict .t (ou (T.rows++ [row])))):=(bx.set (by simp)).trans (bx.set (by simp))
  have fJ:3 < σ.length:=(fj.mp h.hv).1
  have hN:4 < σ.length:=(fj.mp h.i9).1
  refine⟨⟨s.get h.bT (by decide), ?_, ?_,s.get h.km (by decide),s.get h.h2 (by decide),s.get h.qK (by decide),s.get h.ml (by decide),fun j k b e=> ?_,fun r bg=> ?_, ?_⟩,s⟩
  ·rw[nW (by decide),rS fJ]
  ·rw[rS (by simpa using hN)]
  ·obtain⟨n,h5,nm,a6,bl⟩:=h.dec j k b e
   exact⟨n,h5,nm,s.get a6 (by simp;omega),bl⟩
  ·rcases l4.mp bg with bg|bg
   ·exact h.pure r bg
   ·simp at bg;subst bg;exact⟨ag,ah⟩
  ·rw[Cp]
   refine⟨h.nodup,by simp,fun a aI b ax=> ?_⟩
   simp at ax;subst ax
   exact fun q=>e (q▸aI)
theorem ak.aeH(T:ak)(row:V):∃ex,(T.put row).rows=T.rows++ex:=by
 unfold ak.put;split
 ·exact⟨[],by simp⟩
 ·exact⟨[row],rfl⟩
theorem ak.tw(T:ak)(row:V):(T.put row).rows[T.pos row]?=D row:=by
 unfold ak.put ak.pos
 split
 ·rename_i e
  rw[hG (aj2 e),ajY]
 ·rename_i e
  rw[Q7 e];simp
theorem ak.Bt(T:ak)(row:V):(T.put row).rows.length<=T.rows.length+1:=by
 unfold ak.put;split <;>simp
structure ak.bJ(T aB:ak):Prop where
 rows:∃ex,aB.rows=T.rows++ex
 bounds:∃ex,aB.bounds=T.bounds++ex
 decls:∃ex,aB.decls=T.decls++ex
theorem ak.bJ.refl(T:ak):T.bJ T:=⟨⟨[],by simp⟩,⟨[],by simp⟩,⟨[],by simp⟩⟩
theorem ak.bJ.trans{T IH II:ak}(a:T.bJ IH)(b:IH.bJ II):T.bJ II:=by
 obtain⟨⟨aT,ag⟩,⟨aX,ah⟩,⟨bZ,aN⟩⟩:=a
 obtain⟨⟨f1,g1⟩,⟨f2,g2⟩,⟨kp,g3⟩⟩:=b
 exact⟨⟨aT++f1,by rw[g1,ag];simp⟩,⟨aX++f2,by rw[g2,ah];simp⟩,⟨bZ++kp,by rw[g3,aN];simp⟩⟩
theorem ak.mL(T:ak)(row:V):T.bJ (T.put row):=by
 refine⟨T.aeH row,⟨[], ?_⟩,⟨[], ?_⟩⟩ <;>(unfold ak.put;split <;>simp)
theorem ak.bJ.row{T aB:ak}(a:T.bJ aB){i:H}{r:V}(h:T.rows[i]?=D r):aB.rows[i]?=D r:=by
 obtain⟨e,he⟩:=a.rows
 rw[he,jJ (fj.mp h).1];exact h
theorem ak.bJ.bound{T aB:ak}(a:T.bJ aB){i:H}{b:O}(h:T.bounds[i]?=D b):aB.bounds[i]?=D b:=by
 obtain⟨e,he⟩:=a.bounds
 rw[he,jJ (fj.mp h).1];exact h
theorem ak.bJ.decl{T aB:ak}(a:T.bJ aB){i:H}{b:H×O}(h:T.decls[i]?=D b):aB.decls[i]?=D b:=by
 obtain⟨e,he⟩:=a.decls
 rw[he,jJ (fj.mp h).1];exact h
theorem ahu{m:H}{σ:St}{T:ak}{s:aK}(h:TabAt σ T)(hz:T.rows.length < a4):
  az PP (m+2) 5 [.obj 2,.str s] σ=D (.int (T.pos (.ab [.int 3,.str s,.int 0]):H),gi T (.ab [.int 3,.str s,.int 0]) σ):=run (m+1) 5 [.obj 2,.str s] σ h.bT (rv (m:=m) h rfl rfl hz)
noncomputable def ak.param(T:ak)(name:V)(bound:O)(dflt:V):ak:= {T with bounds:=T.bounds++ [bound],defaults:=T.defaults++ [dflt],names:=T.names++ [name]}
noncomputable def pW(T:ak)(name:V)(bound:O)(dflt:V)(σ:St):St:=((σ.set 6 (.list ((T.bounds++ [bound]).map .int))).set 7 (.list (T.defaults++ [dflt]))).set 8 (.list (T.names++ [name]))
theorem TabAt.param{σ:St}{T:ak}{name:V}{bound:O}{dflt:V}(h:TabAt σ T):TabAt (pW T name bound dflt σ) (T.param name bound dflt)/\bx [6,7,8] σ (pW T name bound dflt σ):=by
 have s:bx [6,7,8] σ (pW T name bound dflt σ):=((bx.set (by simp)).trans (bx.set (by simp))).trans (bx.set (by simp))
 have j1:6 < σ.length:=(fj.mp h.h2).1
 have mF:7 < σ.length:=(fj.mp h.qK).1
 have u3:8 < σ.length:=(fj.mp h.ml).1
 refine⟨⟨s.get h.bT (by decide),s.get h.hv (by decide),s.get h.i9 (by decide),s.get h.km (by decide), ?_, ?_, ?_,fun j k b e=> ?_,h.pure,h.nodup⟩,s⟩
 ·unfold pW;rw[nW (by decide),nW (by decide),rS j1];rfl
 ·unfold pW;rw[nW (by decide),rS (by simpa using mF)];rfl
 ·unfold pW;rw[rS (by simpa using u3)];rfl
 ·obtain⟨n,h5,nm,a6,bl⟩:=h.dec j k b e
  exact⟨n,h5,nm,s.get a6 (by simp;omega),bl⟩
theorem ac2{m:H}{σ:St}{T:ak}{name dflt:V}{bound:O}(h:TabAt σ T)(hz:T.rows.length < a4)(ax:T.bounds.length < a4)(hd:T.defaults.length < a4)(aZ:T.names.length < a4):
  az PP (m+2) 6 [.obj 2,name,.int bound,dflt] σ=D (.int ((T.param name bound dflt).pos (.ab [.int 10,.int (T.bounds.length:H)]):H),gi (T.param name bound dflt) (.ab [.int 10,.int (T.bounds.length:H)]) (pW T name bound dflt σ)):=by
 have p:=rv (m:=m) (h.param (name:=name) (bound:=bound) (dflt:=dflt)).1 (row:= .ab [.int 10,.int (T.bounds.length:H)]) rfl rfl hz
 unfold pW at p ⊢
 rw[oZ]at p ⊢
 have pF:=(d5 (as:=T.bounds) V.int).symm▸ax
 exact run (m+1) 6 [.obj 2,name,.int bound,dflt] σ h.bT (sR h.h2 (d5 _) (kf ax)) h.bT h.h2 h.h2 pF (c6 h.bT (by decide)) (c6 h.qK (by decide)) (c6 h.qK (by decide)) hd
  (c6 (c6 h.bT (by decide)) (by decide)) (c6 (c6 h.ml (by decide)) (by decide)) (c6 (c6 h.ml (by decide)) (by decide)) aZ (c6 (c6 (c6 h.bT (by decide)) (by decide)) (by decide)) p
theorem dB{a b:H}(h:a≠b):(a:O)≠(b:O):=fun q=>h (fM q)
theorem aem{m:H}{σ:St}:az PP (m+1) 8 [.obj 2,.int 2] σ=D (.ab [],σ):=run m 8 [.obj 2,.int 2] σ (eqT rfl)
theorem aen{m t:H}{σ:St}{T:ak}{ps:I V}(h:TabAt σ T)(bg:T.rows[t]?=D (.ab [.int 6,.ab ps]))(ah:t≠2)(aP:t < a4):
  az PP (m+1) 8 [.obj 2,.int t] σ=D (.ab ps,σ):=run m 8 [.obj 2,.int t] σ (bf (dB ah)) h.bT ((h.sub aP).trans bg) cz (eqT rfl) hD
theorem Og{m t:H}{σ:St}{T:ak}{k:O}{rest:I V}(h:TabAt σ T)(bg:T.rows[t]?=D (.ab (.int k::rest)))(am:k≠6)(ah:t≠2)(aP:t < a4):
  az PP (m+1) 8 [.obj 2,.int t] σ=D (.ab [.int t],σ):=run m 8 [.obj 2,.int t] σ (bf (dB ah)) h.bT ((h.sub aP).trans bg) cz (bf am)
noncomputable def oT(k:O):O:=if k=3\/k=18 then 6 else if k=4 then 7 else -1
theorem Hn{m:H}{σ:St}{k:O}{rest:I V}(am:k≠5):az PP (m+1) 9 [.ab (.int k::rest)] σ=D (.int (oT k),σ):=by
 unfold oT
 by_cases aN:k=3
 ·rw[a7 (.inl aN)];exact run m 9 [.ab (.int k::rest)] σ cz (eqT aN)
 by_cases qY:k=18
 ·rw[a7 (.inr qY)];exact run m 9 [.ab (.int k::rest)] σ cz (bf aN) (eqT qY)
 rw[bz (qp.mpr ⟨aN,qY⟩)]
 by_cases b1:k=4
 ·rw[a7 b1];exact run m 9 [.ab (.int k::rest)] σ cz (bf aN) (bf qY) (eqT b1)
 ·rw[bz b1];exact run m 9 [.ab (.int k::rest)] σ cz (bf aN) (bf qY) (bf b1) (bf am)
noncomputable def unmarked(r:V):Prop:=∃k rest,r= .ab (.int k::rest)/\k≠5/\(k=2\/k=3\/k=4\/k=8->∃i:O,(V.int k::rest)[rest.length]?=D (.int i)/\i≠1)/\rest.length < 50
theorem Ng{k:O}(h:k∈ [(2:O),3,4,5,8])(ef:k≠5):k=2\/k=3\/k=4\/k=8:=by
 simp only[dj,nX,t5]at h
 rcases h with h|h|h|h|h
 ·exact .inl h
 ·exact .inr (.inl h)
 ·exact .inr (.inr (.inl h))
 ·exact absurd h ef
 ·exact .inr (.inr (.inr h))
theorem aiy{m t:H}{σ:St}{T:ak}{r:V}(h:TabAt σ T)(bg:T.rows[t]?=D r)(cd:unmarked r)(aP:t < a4):az PP (m+1) 10 [.obj 2,.int t] σ=D (.int (-1),σ):=by
 obtain⟨k,rest,rfl,ef,aj,fW⟩:=cd
 by_cases hm:k∈ [(2:O),3,4,5,8]
 ·obtain⟨i,hi,cc⟩:=aj (Ng hm ef)
  exact run m 10 [.obj 2,.int t] σ h.bT ((h.sub aP).trans bg) cz (jy [2,3,4,5,8] hm) ((PE fW).trans hi) (bf cc)
 ·exact run m 10 [.obj 2,.int t] σ h.bT ((h.sub aP).trans bg) cz (je [2,3,4,5,8] hm)
noncomputable def keys(ks:I O):I (V×V):=ks.map fun k=>(V.int k,V.int 1)
noncomputable def fU(ks:I O)(x:O):I O:=if x∈ks then ks else ks++ [x]
theorem AO:∀(ks:I O) (x:O),cx (keys ks) (.int x)=if x∈ks then D (.int 1)else aa
 |[],x=>by simp[keys,cx]
 |k::ks,x=>by
  have bh:=AO ks x
  unfold keys at bh ⊢
  by_cases e:k=x
  ·subst e;simp[cx]
  ·have cH:¬x=k:=fun q=>e q.symm
   simp[cx,e,cH,bh]
theorem Fk:∀(ks:I O) (x:O),dI (keys ks) (.int x) (.int 1)=keys (fU ks x)
 |[],x=>rfl
 |k::ks,x=>by
  have bh:=Fk ks x
  unfold keys fU at *
  by_cases e:k=x
  ·subst e;simp[dI]
  ·have cH:¬x=k:=fun q=>e q.symm
   simp only[eI,dI,V.int.injEq,e,kR,bh,dj,cH,false_or]
   split <;>simp
theorem Mc:∀ks:I O,ra ((keys ks).map (·.1))=D ks
 |[]=>rfl
 |k::ks=>by
  have bh:=Mc ks
  unfold keys at bh ⊢
  simp only[eI,ra,bh];rfl
theorem abI{ks:I O}{x:O}(h:x∈ks):cx (keys ks) (.int x)=D (.int 1):=(AO ks x).trans (a7 h)
theorem abJ{ks:I O}{x:O}(h:x∉ks):cx (keys ks) (.int x)=aa:=(AO ks x).trans (bz h)
section
variable {m t g:H}{σ:St}{T:ak}{ks:I O}{x:O}
theorem acG(bR:σ[g]?=D (.dict .i (keys ks)))(h:x∈ks):dF σ .mem (.int x) (.obj g)=D ae:=A2 bR rfl (abI h)
theorem sZ(bR:σ[g]?=D (.dict .i (keys ks)))(h:x∉ks):dF σ .mem (.int x) (.obj g)=D aw:=vb bR rfl (abJ h)
theorem adg(bR:σ[g]?=D (.dict .i (keys ks)))(h:x∉ks):dF σ .kB (.int x) (.obj g)=D ae:=bs (tW (!·)) (sZ bR h)
theorem ahk{k:O}{rest:I V}(h:TabAt σ T)(bR:σ[g]?=D (.dict .i (keys ks)))(bg:T.rows[t]?=D (.ab (.int k::rest)))(cd:unmarked (.ab (.int k::rest)))(aP:t < a4)(ag:(-1:O)∉ks)(hw:oT k∉ks):
  az PP (m+2) 12 [.obj 2,.obj g,.int t] σ=D (.bool ae,σ):=by
 have am:k≠5:=by obtain⟨k',f3,e,q,_⟩:=cd;cases e;exact q
 exact run (m+1) 12 [.obj 2,.obj g,.int t] σ (aiy h bg cd aP) (sZ bR ag) h.bT ((h.sub aP).trans bg) (Hn am) (adg bR hw)
theorem ail(bR:σ[g]?=D (.dict .i (keys ks)))(h0:(0:O)∉ks)(jt:(13:O)∉ks)(ag:(1:O)∉ks):az PP (m+1) 13 [.obj g] σ=D (.int (-1),σ):=(run m 13 [.obj g] σ rfl).2 rfl (sZ bR h0) rfl (sZ bR jt) rfl (sZ bR ag) rfl
theorem aij(bR:σ[g]?=D (.dict .i (keys ks)))(h0:(0:O)∈ks):az PP (m+1) 13 [.obj g] σ=D (.int 0,σ):=(run m 13 [.obj g] σ rfl).2 rfl (acG bR h0)
theorem abw(bR:σ[g]?=D (.dict .i (keys ks)))(iX:(8:O)∉ks)(w6:(14:O)∉ks):az PP (m+1) 11 [.obj g] σ=D (.none,σ):=run m 11 [.obj g] σ (sZ bR iX) (sZ bR w6)
end
inductive gY(T:ak)(t:H):I O->Prop
 |never:t=2->gY T t []
 |union {ps:I O}:T.rows[t]?=D (.ab [.int 6,.ab (ps.map .int)])->t≠2->t < a4->gY T t ps
 |one {k:O} {rest:I V}:T.rows[t]?=D (.ab (.int k::rest))->k≠6->t≠2->t < a4->gY T t [(t:O)]
theorem vp{m t:H}{σ:St}{T:ak}{ps:I O}(h:TabAt σ T)(p:gY T t ps):az PP (m+1) 8 [.obj 2,.int t] σ=D (.ab (ps.map .int),σ):=by
 cases p with
 |never e=>subst e;exact aem
 |union a b c=>exact aen h a b c
 |one a b c d=>exact Og h a b c d
theorem Fu{σ:St}{g:H}{c:Cell}(h:σ[g]?=D c):σ.set g c=σ:=by
 obtain⟨l,e⟩:=fj.mp h
 rw[<-e];exact List.set_getElem_self l
theorem IP(ks:I O)(p:O):(fU ks p).length<=ks.length+1:=by
 unfold fU;split
 ·exact eJ _
 ·exact gb (fw ..)
theorem Mx(ks:I O):(keys ks).length=ks.length:=d5 _
noncomputable abbrev nS(a b:V)(g:H)(d s4 s5 s6 s7:aJ V):Loc:=[D a,D b,D (.obj g),d,s4,s5,s6,s7]
theorem Lg{m g:H}{a b:V}{d s5 s6 s7:aJ V}:∀(ps ks:I O) (s4:aJ V) (σ:St),σ[g]?=D (.dict .i (keys ks))->ks.length+ps.length < a4->
  ∃mM,h8 (fun _=>ae) 4 (fun J σ=>cQ PP (az PP m) [.fG (.aq 2) (.aq 4) (.lit (.int 1))] J σ) (ps.map .int) (nS a b g d s4 s5 s6 s7) σ=
   D (.next,nS a b g d mM s5 s6 s7,σ.set g (.dict .i (keys (ps.foldl fU ks))))
 |[],ks,s4,σ,bR,_=>⟨s4,(sr rfl).trans (by rw[show([]:I O).foldl fU ks=ks from rfl,Fu bR])⟩
 |p::ps,ks,s4,σ,bR,aj=>by
  obtain⟨mM,bh⟩:=Lg (m:=m) (a:=a) (b:=b) (d:=d) (s5:=s5) (s6:=s6) (s7:=s7) ps (fU ks p) (D (.int p)) (σ.set g (.dict .i (keys (fU ks p)))) (h9 bR)
   (c9 (rU (IP ks p) _) (by rw[jK,l6 1];exact aj))
  rw[Cq]at bh
  refine⟨mM,mu rfl ?_ bh⟩
  rw[<-Fk]
  exact(g4 PP (az PP m) [.fG (.aq 2) (.aq 4) (.lit (.int 1))] (nS a b g d (D (.int p)) s5 s6 s7) σ).1 bR (cW (by rw[Mx];exact c9 (cn ..) aj))
theorem JU{ck:V->St->aJ (au×St)}{f:V->St->aJ (V×St)}{live:St->au}{σ:St}:∀(vs cb:I V),(∀v∈vs,∀cb,ck v (σ++ [.list cb])=D (ae,σ++ [.list cb]))->(∀v∈vs,∀cb,f v (σ++ [.list cb])=D (v,σ++ [.list cb]))->(∀cb,live (σ++ [.list cb])=ae)->
  cb.length+vs.length < a4->gH σ.length ck f live vs (σ++ [.list cb])=D (σ++ [.list (cb++vs)])
 |[],cb,_,_,aj,_=>by rw[fi];exact zE (aj cb)
 |v::vs,cb,aE,bH,aj,hz=>by
  have bh:=JU (ck:=ck) (f:=f) (live:=live) (σ:=σ) vs (cb++ [v]) (fun w hw=>aE w (.tail _ hw)) (fun w hw=>bH w (.tail _ hw)) aj (by rw[fw,jK,l6 [v].length];exact hz)
  rw[hR]at bh
  exact zD (aj cb) (aE v (.head _) cb) (bH v (.head _) cb) fP (c9 (cn ..) hz) (by rw[p2];exact bh)
theorem TabAt.off{σ:St}{T:ak}{g:H}{c:Cell}(h:TabAt σ T)(bR:20 < g)(hd:∀(j k:H) (b:O),T.decls[j]?=D (k,b)->k≠g):TabAt (σ.set g c) T:=h.same (S:=[g]) (bx.set (.head _)) fun i hi=>by rw[dt]at hi;subst hi;exact .inr (.inr ⟨bR,hd⟩)
theorem TabAt.more{σ g:St}{T:ak}(h:TabAt σ T):TabAt (σ++g) T:=h.same (S:=[]) bx.append fun _ q=>nomatch q
theorem Eb:∀(ps ks:I O),(ps.foldl fU ks).length<=ks.length+ps.length
 |[],ks=>dm _
 |p::ps,ks=>cp (Eb ps (fU ks p)) (cp (rU (IP ks p) _) (by rw[jK,l6 1];exact dm _))
theorem Lh{m g:H}{pv:V}{s5 s6 s7:aJ V}{T:ak}{pf:H->I O}{live:St->au}(LD:20 < g)(hd:∀(j k:H) (b:O),T.decls[j]?=D (k,b)->k≠g):
  ∀(ts:I H) (ks:I O) (s3 s4:aJ V) (σ:St),TabAt σ T->(∀t∈ts,gY T t (pf t))->σ[g]?=D (.dict .i (keys ks))->ks.length+(ts.flatMap pf).length < a4->(∀d,live (σ.set g d)=ae)->
  ∃p0 mM,h8 live 3 (fun J σ=>cQ PP (az PP (m+1)) [.for 4 aw (.call 8 [.aq 0,.aq 3]) [.fG (.aq 2) (.aq 4) (.lit (.int 1))]] J σ) (ts.map fun t=> .int (t:H)) (nS (.obj 2) pv g s3 s4 s5 s6 s7) σ=
   D (.next,nS (.obj 2) pv g p0 mM s5 s6 s7,σ.set g (.dict .i (keys ((ts.flatMap pf).foldl fU ks))))
 |[],ks,s3,s4,σ,h,_,bR,_,aj=>by
  have e:=Fu bR
  have hl:=aj (.dict .i (keys ks))
  rw[e]at hl
  exact⟨s3,s4,(sr hl).trans (by rw[show([].flatMap pf).foldl fU ks=ks from rfl,e])⟩
 |t::ts,ks,s3,s4,σ,h,ao,bR,hz,aj=>by
  have hl:=aj (.dict .i (keys ks))
  rw[Fu bR]at hl
  rw[ajW,fw,<-jK]at hz
  obtain⟨mM,ew⟩:=Lg (m:=m+1) (g:=g) (a:= .obj 2) (b:=pv) (d:=D (.int (t:H))) (s5:=s5) (s6:=s6) (s7:=s7) (pf t) ks s4 σ bR (c9 (cn ..) hz)
  obtain⟨p0,afu,bh⟩:=Lh (m:=m) (pv:=pv) (s5:=s5) (s6:=s6) (s7:=s7) (pf:=pf) (live:=live) LD hd ts ((pf t).foldl fU ks) (D (.int (t:H))) mM (σ.set g (.dict .i (keys ((pf t).foldl fU ks))))
   (h.off LD hd) (fun u cd=>ao u (.tail _ cd)) (h9 bR) (c9 (rU (Eb _ _) _) hz) (fun d=>by rw[Cq];exact aj d)
  rw[Cq]at bh
  refine⟨p0,afu, ?_⟩
  rw[ajW,List.foldl_append]
  exact mu hl ((g4 PP (az PP (m+1)) [.for 4 aw (.call 8 [.aq 0,.aq 3]) [.fG (.aq 2) (.aq 4) (.lit (.int 1))]] (nS (.obj 2) pv g (D (.int (t:H))) s4 s5 s6 s7) σ (vp h (ao t (.head _))) rfl).1 ew) bh
theorem E8(x y:O):∀l,y∈k2 x l↔y=x\/y∈l
 |[]=>by simp[k2]
 |z::r=>by
  unfold k2
  split
  ·simp
  ·simp only[dj,E8 x y r]
   constructor
   ·rintro (h|h|h) <;>simp_all
   ·rintro (h|h|h) <;>simp_all
theorem BK(y:O):∀l,y∈f7 l↔y∈l
 |[]=>by simp[f7]
 |x::r=>by simp[f7,E8,BK y r]
theorem L7(x:O):∀l,(k2 x l).length=l.length+1
 |[]=>rfl
 |z::r=>by unfold k2;split <;>simp[L7 x r]
theorem GR:∀l,(f7 l).length=l.length
 |[]=>rfl
 |x::r=>by simp[f7,L7,GR r]
theorem OM{l:I O}{k:O}(h:1=1):(V.ab [.int k,.ab (l.map .int)]).pure=ae:=by
 have:∀l:I O,(l.map V.int).all (V.gS 3)=ae:=fun l=>by
  induction l with
  |nil=>rfl
  |cons a l bh=>exact bh
 show((l.map V.int).all (V.gS 3) && ae)=ae
 rw[this];rfl
noncomputable def Qi(T:ak):I O->ak×O
 |[]=>(T,2)
 |[x]=>(T,x)
 |u=>(T.put (.ab [.int 6,.ab (u.map .int)]),(T.pos (.ab [.int 6,.ab (u.map .int)]):H))
noncomputable def S2(T:ak)(ks:I O)(x:O):Prop:=∃(t:H) (k:O) (rest:I V),x=(t:H)/\T.rows[t]?=D (.ab (.int k::rest))/\unmarked (.ab (.int k::rest))/\t < a4/\oT k∉ks
theorem Qj{m:H}{σ:St}{T:ak}{pv:V}{ts:I H}{pf:H->I O}{ks:I O}(h:TabAt σ T)(fW:20 < σ.length)
  (aj:∀d,eQ (σ++ [.dict .i []]) pv ((σ++ [Cell.dict .i []]).set σ.length d)=ae) (ao:∀t∈ts,gY T t (pf t)) (am:ks=(ts.flatMap pf).foldl fU []) (hz:(ts.flatMap pf).length < a4):
  ∃s3 s4,h8 (eQ (σ++ [.dict .i []]) pv) 3 (fun J σ=>cQ PP (az PP (m+3)) [.for 4 aw (.call 8 [.aq 0,.aq 3]) [.fG (.aq 2) (.aq 4) (.lit (.int 1))]] J σ) (ts.map fun t=> .int (t:H)) (nS (.obj 2) pv σ.length aa aa aa aa aa) (σ++ [.dict .i []])=
   D (.next,nS (.obj 2) pv σ.length s3 s4 aa aa aa,σ++ [.dict .i (keys ks)]):=by
 have hd:∀(j k:H) (b:O),T.decls[j]?=D (k,b)->k≠σ.length:=fun j k b e q=>by
  obtain⟨_,_,_,ag,_⟩:=h.dec j k b e
  exact absurd (fj.mp ag).1 (q▸v7 _)
 obtain⟨s3,s4,aR⟩:=Lh (m:=m+2) (g:=σ.length) (pv:=pv) (s5:=aa) (s6:=aa) (s7:=aa) (T:=T) (pf:=pf) (live:=eQ (σ++ [.dict .i []]) pv) fW hd ts [] aa aa (σ++ [.dict .i []]) h.more ao fP (by rw[Ra,g7];exact hz) aj
 rw[p2,<-am]at aR
 exact⟨s3,s4,aR⟩
theorem aiF{m:H}{σ:St}{T:ak}{pv:V}{ts:I H}{pf:H->I O}{ks:I O}(h:TabAt σ T)(fW:20 < σ.length)(hi:dd (σ++ [.dict .i []]) pv=D (ts.map fun t=> .int (t:H)))
  (aj:∀d,eQ (σ++ [.dict .i []]) pv ((σ++ [Cell.dict .i []]).set σ.length d)=ae) (ao:∀t∈ts,gY T t (pf t)) (am:ks=(ts.flatMap pf).foldl fU []) (hz:(ts.flatMap pf).length < a4) (h0:(0:O)∈ks):
  az PP (m+4) 14 [.obj 2,pv] σ=D (.int 0,σ++ [.dict .i (keys ks)]):=by
 obtain⟨s3,s4,aR⟩:=Qj (m:=m) h fW aj ao am hz
 exact(run (m+3) 14 [.obj 2,pv] σ hi).1 aR (aij fP h0) (uJ (n4 0))
theorem aiG{m:H}{σ:St}{T:ak}{pv:V}{ts:I H}{pf:H->I O}{ks:I O}(h:TabAt σ T)(fW:20 < σ.length)(hi:dd (σ++ [.dict .i []]) pv=D (ts.map fun t=> .int (t:H)))
  (aj:∀d,eQ (σ++ [.dict .i []]) pv ((σ++ [Cell.dict .i []]).set σ.length d)=ae) (ao:∀t∈ts,gY T t (pf t)) (am:ks=(ts.flatMap pf).foldl fU []) (hz:(ts.flatMap pf).length < a4)
  (h0:(0:O)∉ks) (jt:(13:O)∉ks) (ag:(1:O)∉ks) (iX:(8:O)∉ks) (w6:(14:O)∉ks) (aam:(-1:O)∉ks) (fm:∀x∈ks,S2 T ks x) (pD:ks.length < 64) (bg:T.rows.length < a4):
  ∃af,az PP (m+4) 14 [.obj 2,pv] σ=D (.int (Qi T (f7 ks)).2,af)/\TabAt af (Qi T (f7 ks)).1/\bx [3,4] σ af:=by
 obtain⟨s3,s4,aR⟩:=Qj (m:=m) h fW aj ao am hz
 have fa:=h.more (g:=[Cell.dict .i (keys ks)])
 have bW:=ail (m:=m+2) fP h0 jt ag (σ:=σ++ [Cell.dict .i (keys ks)])
 have abv:=abw (m:=m+2) fP iX w6 (σ:=σ++ [Cell.dict .i (keys ks)])
 have agQ:sq (σ++ [Cell.dict .i (keys ks)]) (.obj σ.length)=D (.lst ((f7 ks).map .int)):=by
  unfold sq;dsimp only;rw[fP];dsimp only;rw[Mc];exact a7 pD
 have ai:=GR ks
 have LY:(f7 ks).length < a4:=by rw[ai];exact fN pD (by decide)
 have q2:gH (σ++ [Cell.dict .i (keys ks)]).length
   (fun v aF=>gC PP (az PP (m+3)) (D (.call 12 [.aq 0,.aq 2,.aq 7])) ((nS (.obj 2) pv σ.length s3 s4 (D (.int (-1))) aa aa).set 7 (D v)) aF)
   (fun v aF=>aG PP (az PP (m+3)) (.aq 7) ((nS (.obj 2) pv σ.length s3 s4 (D (.int (-1))) aa aa).set 7 (D v)) aF)
   (eQ (σ++ [Cell.dict .i (keys ks)]) (.lst ((f7 ks).map .int))) ((f7 ks).map .int) ((σ++ [Cell.dict .i (keys ks)])++ [.list []])=D ((σ++ [Cell.dict .i (keys ks)])++ [.list ([]++(f7 ks).map .int)]):=by
  refine JU _ [] (fun v aH cb=> ?_) (fun v aH cb=>rfl) (fun _=>rfl) (by rw[d5,Ra,g7];exact LY)
  obtain⟨x,aA,rfl⟩:=dk.mp aH
  obtain⟨t,k,rest,rfl,a6,bl,cF,eV⟩:=fm x ((BK x ks).mp aA)
  exact av (jB PP (az PP (m+3)) (.call 12 [.aq 0,.aq 2,.aq 7]) (nS (.obj 2) pv σ.length s3 s4 (D (.int (-1))) aa (D (.int (t:H)))) (σ++ [Cell.dict .i (keys ks)]++ [Cell.list cb]) (ahk (fa.more (g:=[Cell.list cb])) ((jJ (by rw[fw];exact rV _)).trans fP) a6 bl cF aam eV)) rfl
 rw[qf]at q2
 have w9:=fa.more (g:=[Cell.list ((f7 ks).map .int)])
 have ju:bx [3,4] σ (σ++ [Cell.dict .i (keys ks)]++ [Cell.list ((f7 ks).map .int)]):=bx.append.trans bx.append
 have sB:(σ++ [Cell.dict .i (keys ks)]++ [Cell.list ((f7 ks).map .int)])[(σ++ [Cell.dict .i (keys ks)]).length]?=D (.list ((f7 ks).map .int)):=fP
 have uQ:((f7 ks).map V.int).length<=a4:=by rw[d5];exact kf LY
 rw[<-ai]at pD
 generalize σ++ [Cell.dict .i (keys ks)]++ [Cell.list ((f7 ks).map .int)]=ct at *
 have go:=fun{b} (e:(!((f7 ks).map V.int).isEmpty)=b)=>(run (m+3) 14 [.obj 2,pv] σ hi).1 aR bW (oh (by decide)) abv agQ rfl|>.1 q2 ((Hb sB uQ).trans (bs D e))
 cases cd:f7 ks with
 |nil=>
  rw[cd]at go
  exact⟨ct,go (b:=aw) rfl,w9,ju⟩
 |cons x r=>
  rw[cd]at go sB uQ pD
  have Lb:=go (b:=ae) rfl
  clear go
  cases r with
  |nil=>exact⟨ct,Lb (mH sB uQ) (eqT rfl) (rE (i:=0) sB (by decide)),w9,ju⟩
  |cons y r=>
   have pr:(V.ab [.int 6,.ab ((x::y::r).map .int)]).pure=ae:=OM rfl
   obtain⟨a1,c1⟩:=w9.put (row:= .ab [.int 6,.ab ((x::y::r).map .int)]) rfl pr
   rw[qd,qd]at pD
   exact⟨_,Lb (mH sB uQ) (bf (by rw[d5];simp only[qd];omega)) (mH sB uQ) (Ab (by rw[d5];simp only[qd];omega)) w9.bT (k4 sB) uQ (rv (m:=m+2) w9 rfl pr bg),a1,ju.trans c1⟩
noncomputable def sH:I (H×V):=[(27,.obj 2),(29,.int 0),(30,.int 200),(31,.int 40),(32,.none)]
noncomputable def gF(σ:St):Prop:=σ[11]?=D (.inst 6 sH)
section
variable {m t:H}{σ:St}{T:ak}
theorem TabAt.row(h:TabAt σ T){r:V}(bg:T.rows[t]?=D r)(aP:t < a4):ee σ (.obj 3) (.int (t:O))=D r:=(h.sub aP).trans bg
theorem KY{v:V}:az PP (m+1) 25 [.obj 11,v] σ=D (v,σ):=run m 25 [.obj 11,v] σ
theorem aeG{row:V}(h:TabAt σ T)(bu:gF σ)(ag:row.isTup=ae)(ah:row.pure=ae)(hz:T.rows.length < a4):
  az PP (m+2) 26 [.obj 11,row] σ=D (.int (T.pos row:H),gi T row σ):=run (m+1) 26 [.obj 11,row] σ bu h.bT (rv (m:=m) h ag ah hz)
theorem Zm{r:V}(h:TabAt σ T)(bg:T.rows[t]?=D r)(cd:unmarked r)(aP:t < a4):az PP (m+1) 17 [.obj 2,.int t] σ=D (.bool aw,σ):=by
 obtain⟨k,rest,rfl,ef,aj,fW⟩:=cd
 by_cases hm:k∈ [(2:O),3,4,5,8]
 ·obtain⟨i,hi,cc⟩:=aj (Ng hm ef)
  exact run m 17 [.obj 2,.int t] σ h.bT (h.row bg aP) cz (jy [2,3,4,5,8] hm) ((PE fW).trans hi) (bf cc)
 ·exact run m 17 [.obj 2,.int t] σ h.bT (h.row bg aP) cz (je [2,3,4,5,8] hm)
theorem ae8{r:V}(h:TabAt σ T)(bg:T.rows[t]?=D r)(cd:unmarked r)(aP:t < a4):az PP (m+2) 18 [.obj 2,.int t] σ=D (.int t,σ):=run (m+1) 18 [.obj 2,.int t] σ (Zm (m:=m) h bg cd aP)
theorem oO{r:V}(h:TabAt σ T)(bu:gF σ)(bg:T.rows[t]?=D r)(cd:unmarked r)(aP:t < a4):az PP (m+3) 41 [.obj 11,.int t] σ=D (.int t,σ):=by
 have g:=ae8 (m:=m) h bg cd aP
 obtain⟨k,rest,rfl,_⟩:=cd
 have go:=run (m+2) 41 [.obj 11,.int t] σ bu KY bu
 by_cases q:k∈ [(2:O),3,4,5]
 ·exact go (run (m+1) 16 [.obj 2,.int t] σ h.bT (h.row bg aP) cz (jy [2,3,4,5] q)) bu g
 ·exact go (run (m+1) 16 [.obj 2,.int t] σ h.bT (h.row bg aP) cz (je [2,3,4,5] q))
theorem V0{k:O}{rest:I V}(h:TabAt σ T)(bg:T.rows[t]?=D (.ab (.int k::rest)))(am:k≠10)(aP:t < a4):az PP (m+1) 27 [.obj 2,.int t] σ=D (.int t,σ):=run m 27 [.obj 2,.int t] σ h.bT (h.row bg aP) cz (neT am)
theorem TabAt.bound{p:H}{b:O}(h:TabAt σ T)(ax:T.bounds[p]?=D b)(ao:p < a4):ee σ (.obj 6) (.int (p:O))=D (.int b):=(rE h.h2 ao).trans (by rw[rR,ax];rfl)
theorem V1{p:H}{b:O}(h:TabAt σ T)(bg:T.rows[t]?=D (.ab [.int 10,.int p]))(ax:T.bounds[p]?=D b)(aP:t < a4)(ao:p < a4):az PP (m+1) 27 [.obj 2,.int t] σ=D (.int (if b < 0\/b=0 then 1 else b),σ):=by
 have go:=run m 27 [.obj 2,.int t] σ h.bT (h.row bg aP) cz (k7 rfl) h.bT hD (h.bound ax ao)
 by_cases ag:b < 0
 ·rw[a7 (.inl ag)];exact go (sV ag)
 by_cases ah:b=0
 ·rw[a7 (.inr ah)];exact go (lL ag) (eqT ah)
 ·rw[bz (qp.mpr ⟨ag,ah⟩)];exact go (lL ag) (bf ah)
theorem Lu{v:V}{aF:St}(bu:gF σ){w:V}(h:az PP (m+1) 27 [.obj 2,v] σ=D (w,aF)):az PP (m+2) 29 [.obj 11,v] σ=D (w,aF):=run (m+1) 29 [.obj 11,v] σ bu h
theorem aaH{v:V}{aF:St}(bu:gF σ){w:V}(h:az PP (m+1) 23 [.obj 2,v] σ=D (w,aF)):az PP (m+2) 30 [.obj 11,v] σ=D (w,aF):=run (m+1) 30 [.obj 11,v] σ bu h
end
structure bw where
 inst:H
 bY:H
 bk:H
 aO:H
 road:H
 da:H
 ba:H
structure be where
 mode:O
 deep:O
 dn:O
 df:au
 twin:V
 at_:O
 bY:I (V×V)
 bk:I (V×V)
 aO:I V
 ba:I V
noncomputable def g0(A:bw)(R:be):I (H×V):=[(33,.obj 11),(34,.int R.mode),(35,.obj 13),(36,.obj A.bY),(37,.obj A.bk),(38,.obj A.aO),(39,.obj A.road),(29,.int R.deep),(40,.int R.dn),(41,.obj A.da),(42,.bool R.df),(43,R.twin),(44,.str ⟨#[]⟩),(23,.int R.at_)]
structure cq(σ:St)(A:bw)(R:be):Prop where
 inst:σ[A.inst]?=D (.inst 5 (g0 A R))
 bY:σ[A.bY]?=D (.dict .t R.bY)
 bk:σ[A.bk]?=D (.dict .t R.bk)
 aO:σ[A.aO]?=D (.list R.aO)
 da:σ[A.da]?=D (.inst 0 [(0,.obj A.ba)])
 ba:σ[A.ba]?=D (.list R.ba)
 apart:[A.inst,A.bY,A.bk,A.aO,A.da,A.ba].Nodup
noncomputable def ua(σ:St):Prop:=σ[13]?=D (.dict .i [(.int 2,.obj 20)])/\σ[20]?=D (.inst 7 [])
section
variable {m:H}{σ:St}{T:ak}{A:bw}{R:be}
theorem cq.bO(h:cq σ A R){b:au}(dx:R.df=b):σ[A.inst]?=D (.inst 5 (g0 A {R with df:=b})):=by subst dx;exact h.inst
theorem adq(h:cq σ A R)(dx:R.df=aw){c:O}:az PP (m+1) 33 [.obj A.inst,.int c] σ=D (.none,σ):=run m 33 [.obj A.inst,.int c] σ (h.bO dx)
theorem adp(h:cq σ A R)(dx:R.df=ae)(hz:R.ba.length < a4){c:O}:az PP (m+2) 33 [.obj A.inst,.int c] σ=D (.none,σ.set A.ba (.list (R.ba++ [.ab [.int c,.int R.at_]]))):=run (m+1) 33 [.obj A.inst,.int c] σ (h.bO dx) h.inst h.da h.inst (run m 1 [.obj A.da,.int c,.int R.at_] σ h.da h.ba h.ba hz)
theorem ac6{a b:H}(h:a≠b):a∉ [b]:=fun q=>h (dt.mp q)
structure bw.Apart(A:bw):Prop where
 xl:A.inst≠A.bY
 Aw:A.inst≠A.bk
 it:A.inst≠A.aO
 io:A.inst≠A.da
 ox:A.inst≠A.ba
 zc:A.bY≠A.bk
 at_:A.bY≠A.aO
 Df:A.bY≠A.da
 kV:A.bY≠A.ba
 kt:A.bk≠A.aO
 er:A.bk≠A.da
 hk:A.bk≠A.ba
 to:A.aO≠A.da
 cN:A.aO≠A.ba
 or:A.da≠A.ba
theorem kD{a b:H}{l:I H}(h:a∉l)(ax:b∈l):a≠b:=fun q=>h (q▸ax)
theorem cq.ap(h:cq σ A R):A.Apart:=by
 have ⟨ag,k6⟩:=hH.mp h.apart
 have ⟨ah,gE⟩:=hH.mp k6
 have ⟨aN,mI⟩:=hH.mp gE
 have ⟨b1,lN⟩:=hH.mp mI
 have ⟨ef,amd⟩:=hH.mp lN
 exact⟨kD ag (.head _),kD ag (.tail _ (.head _)),kD ag (.tail _ (.tail _ (.head _))),kD ag (.tail _ (.tail _ (.tail _ (.head _)))),kD ag (.tail _ (.tail _ (.tail _ (.tail _ (.head _))))),
  kD ah (.head _),kD ah (.tail _ (.head _)),kD ah (.tail _ (.tail _ (.head _))),kD ah (.tail _ (.tail _ (.tail _ (.head _)))),kD aN (.head _),kD aN (.tail _ (.head _)),kD aN (.tail _ (.tail _ (.head _))),
  kD b1 (.head _),kD b1 (.tail _ (.head _)),kD ef (.head _)⟩
theorem cq.FZ(h:cq σ A R){ns:I V}:cq (σ.set A.ba (.list ns)) A {R with ba:=ns}/\bx [A.ba] σ (σ.set A.ba (.list ns)):=⟨⟨c6 h.inst h.ap.ox.symm,c6 h.bY h.ap.kV.symm,c6 h.bk h.ap.hk.symm,c6 h.aO h.ap.cN.symm,c6 h.da h.ap.or.symm,h9 h.ba,h.apart⟩,bx.set (.head _)⟩
theorem ado(h:cq σ A R)(hz:R.ba.length < a4)(c:O):∃af,az PP (m+2) 33 [.obj A.inst,.int c] σ=D (.none,af)/\cq af A {R with ba:=if R.df then R.ba++ [.ab [.int c,.int R.at_]]else R.ba}/\bx [A.ba] σ af:=by
 by_cases q:R.df=ae
 ·exact⟨_,adp h q hz,by rw[a7 q];exact h.FZ.1,h.FZ.2⟩
 ·exact⟨_,adq h (by simpa using q),by rw[bz q];exact h,bx.refl ..⟩
theorem ahU(h:cq σ A R):az PP (m+1) 45 [.obj A.inst] σ=D (.bool (R.df && decide (R.mode=1)),σ):=by
 cases q:R.df with
 |true=>exact run m 45 [.obj A.inst] σ (h.bO q) h.inst rfl
 |false=>exact run m 45 [.obj A.inst] σ (h.bO q)
theorem Nf(h:cq σ A R)(ag:R.ba.length<=a4)(ah:R.aO.length<=a4):az PP (m+1) 35 [.obj A.inst] σ=D (.ab [.int (R.ba.length:H),.int (R.aO.length:H)],σ):=run m 35 [.obj A.inst] σ h.inst h.da (mH h.ba ag) h.inst (mH h.aO ah)
noncomputable def hf(k:O):Prop:=k=10\/k=14\/k=15\/k=16\/k=17\/k=18\/k=19
noncomputable instance (k:O):oV (hf k):=by unfold hf;infer_instance
theorem zO{k:O}:k∈ [(10:O),14,15,16,17,18,19]↔hf k:=by
 simp only[hf,dj,nX,t5]
theorem afm{a b:O}(hy:a≠7/\b≠7)(hd:hf a\/hf b):az PP (m+1) 53 [.int a,.int b] σ=D (.int 2,σ):=by
 by_cases aI:hf a
 ·exact run m 53 [.int a,.int b] σ (bf hy.1) (bf hy.2) (jy [10,14,15,16,17,18,19] (zO.mpr aI))
 ·exact run m 53 [.int a,.int b] σ (bf hy.1) (bf hy.2) (je [10,14,15,16,17,18,19] fun q=>aI (zO.mp q)) (jy [10,14,15,16,17,18,19] (zO.mpr (hd.resolve_left aI)))
end
noncomputable def openK(k:O):au:=decide (k=6)||(decide (k=7)||(decide (k=10)||(decide (k=14)||(decide (k=15)||(decide (k=16)||(decide (k=17)||(decide (k=18)||decide (k=19))))))))
noncomputable def j8(M s t k:O):O:=
 if t=0\/t=13\/s=2\/s=13 then 1 else if s=0/\M=4 then 0 else if t=1 then 1 else if s=0 then 0 else if t=2/\openK k=aw then 0 else -1
theorem N4{k:O}:openK k=ae↔k∈ [(6:O),7,10,14,15,16,17,18,19]:=by
 simp only[openK,QP,yS,dj,nX,t5]
section
variable {σ:St}{k:O}
theorem Gc(h:openK k=ae):dF σ .mem (.int k) (.ab ([6,7,10,14,15,16,17,18,19].map .int))=D ae:=jy _ (N4.mp h)
theorem Bk(h:openK k=aw):dF σ .mem (.int k) (.ab ([6,7,10,14,15,16,17,18,19].map .int))=D aw:=je _ fun q=>by rw[N4.mpr q]at h;cases h
theorem adm(h:openK k=aw):dF σ .kB (.int k) (.ab ([6,7,10,14,15,16,17,18,19].map .int))=D ae:=bs (tW (!·)) (Bk (σ:=σ) h)
theorem adl(h:openK k=ae):dF σ .kB (.int k) (.ab ([6,7,10,14,15,16,17,18,19].map .int))=D aw:=bs (tW (!·)) (Gc (σ:=σ) h)
end
section
variable {m:H}{σ:St}{T:ak}{A:bw}{R:be}
theorem aio{sn:H}{t k:O}{rest:I V}(h:TabAt σ T)(bu:gF σ)(cI:cq σ A R)(aY:T.rows[sn]?=D (.ab (.int k::rest)))(hz:sn < a4)(ag:(sn:O)≠1)(h0:(sn:O)=0->R.mode=4\/t=0\/t=13\/t=1\/t=2):
  az PP (m+1) 48 [.obj A.inst,.int sn,.int t] σ=D (.int (j8 R.mode sn t k),σ):=by
 have LU:=h.row aY hz
 generalize (sn:O)=s at *
 unfold j8
 have go:=run m 48 [.obj A.inst,.int s,.int t] σ
 by_cases a1:t=0
 ·rw[a7 (.inl a1)];exact go (eqT a1)
 by_cases c1:t=13
 ·rw[a7 (.inr (.inl c1))];exact go (bf a1) (eqT c1)
 by_cases e0:s=2
 ·rw[a7 (.inr (.inr (.inl e0)))];exact go (bf a1) (bf c1) (eqT e0)
 by_cases iv:s=13
 ·rw[a7 (.inr (.inr (.inr iv)))];exact go (bf a1) (bf c1) (bf e0) (eqT iv)
 rw[bz (fun q=>by rcases q with q|q|q|q;exact a1 q;exact c1 q;exact e0 q;exact iv q)]
 by_cases b:s=0
 ·by_cases c:R.mode=4
  ·rw[a7 ⟨b,c⟩];exact run m 48 [.obj A.inst,.int s,.int t] σ (bf a1) (bf c1) (bf e0) (bf iv) (eqT b) cI.inst (eqT c)
  rw[bz (fun q=>c q.2),a7 b]
  by_cases d:t=1
  ·rw[a7 d];exact run m 48 [.obj A.inst,.int s,.int t] σ (bf a1) (bf c1) (bf e0) (bf iv) (eqT b) cI.inst (bf c) (eqT d)
  ·rw[bz d]
   exact run m 48 [.obj A.inst,.int s,.int t] σ (bf a1) (bf c1) (bf e0) (bf iv) (eqT b) cI.inst (bf c) (bf d) (eqT b) (eqT ((h0 b).elim (fun z=>absurd z c) fun z=>z.elim (fun z=>absurd z a1) fun z=>z.elim (fun z=>absurd z c1) fun z=>z.elim (fun z=>absurd z d) id))
 rw[bz (fun q=>b q.1),bz b]
 by_cases d:t=1
 ·rw[a7 d];exact run m 48 [.obj A.inst,.int s,.int t] σ (bf a1) (bf c1) (bf e0) (bf iv) (bf b) (eqT d)
 rw[bz d]
 by_cases e:t=2
 ·cases f:openK k with
  |false=>rw[a7 ⟨e,rfl⟩];exact run m 48 [.obj A.inst,.int s,.int t] σ (bf a1) (bf c1) (bf e0) (bf iv) (bf b) (bf d) (bf b) (bf ag) (eqT e) cI.inst bu h.bT LU cz (adm f)
  |true=>rw[bz (fun q=>nomatch q.2)];exact run m 48 [.obj A.inst,.int s,.int t] σ (bf a1) (bf c1) (bf e0) (bf iv) (bf b) (bf d) (bf b) (bf ag) (eqT e) cI.inst bu h.bT LU cz (adl f)
 ·rw[bz (fun q=>e q.1)];exact run m 48 [.obj A.inst,.int s,.int t] σ (bf a1) (bf c1) (bf e0) (bf iv) (bf b) (bf d) (bf b) (bf ag) (bf e)
end
section
variable {m:H}{σ:St}{T:ak}{A:bw}{R:be}
theorem agI{s t v:O}(aH:0<=v)(aP:az PP (m+1) 48 [.obj A.inst,.int s,.int t] σ=D (.int v,σ)):az PP (m+2) 47 [.obj A.inst,.int s,.int t] σ=D (.int v,σ):=run (m+1) 47 [.obj A.inst,.int s,.int t] σ aP (uJ aH)
theorem agG{s t:H}{a b:O}{cM f5:I V}(h:TabAt σ T)(bu:gF σ)(cI:cq σ A R)(aI:T.rows[s]?=D (.ab (.int a::cM)))(ax:T.rows[t]?=D (.ab (.int b::f5)))(aY:s < a4)(aP:t < a4)
  (aH:az PP (m+1) 48 [.obj A.inst,.int s,.int t] σ=D (.int (-1),σ)) (aR:openK a=ae\/openK b=ae):az PP (m+2) 47 [.obj A.inst,.int s,.int t] σ=D (.int (-1),σ):=by
 have go:=run (m+1) 47 [.obj A.inst,.int s,.int t] σ aH (oh (by decide)) cI.inst bu h.bT (h.row aI aY) cz (h.row ax aP) cz
 cases q:openK a with
 |true=>exact go (Gc q)
 |false=>exact go (Bk q) (Gc (aR.resolve_left (by rw[q];decide)))
theorem aiN{s t:H}{x y:V}{i j:V}(h:TabAt σ T)(bu:gF σ)(cI:cq σ A R)(aI:T.rows[s]?=D (.ab [.int 3,x,i]))(ax:T.rows[t]?=D (.ab [.int 3,y,j]))(aY:s < a4)(aP:t < a4)(c7:t≠6/\s≠6)(b1:s≠4):
  az PP (m+3) 50 [.obj A.inst,.int s,.int t] σ=D (.int 0,σ):=by
 have ne:az PP (m+2) 51 [.obj A.inst,.int s,.ab [.int 3,x,i],.ab [.int 3,y,j]] σ=D (.int 0,σ):=by
  have go:=run (m+1) 51 [.obj A.inst,.int s,.ab [.int 3,x,i],.ab [.int 3,y,j]] σ cI.inst
  by_cases e:R.mode=4
  ·exact go (eqT e)
  ·exact go (bf e) (run m 49 [.ab [.int 3,y,j]] σ cz (bf (by decide)))
 have a9:=Hn (m:=m+1) (σ:=σ) (k:=3) (rest:=[x,i]) (by decide)
 have go:=run (m+2) 50 [.obj A.inst,.int s,.int t] σ (bf (dB b1)) cI.inst bu h.bT (h.row aI aY) cI.inst bu h.bT (h.row ax aP) a9 (bf fun q=>c7.1 (fM q.symm)) cI.inst
 by_cases e:R.mode=2
 ·exact go (eqT e) (Hn (by decide)) (bf fun q=>c7.2 (fM q.symm)) cz (bf (by decide)) cz (bf (by decide)) ne
 ·exact go (bf e) cz (bf (by decide)) cz (bf (by decide)) ne
end
section
variable {m:H}{σ af:St}{T:ak}{A:bw}{R:be}
theorem agH{s t:H}{x y i j:V}(h:TabAt σ T)(bu:gF σ)(cI:cq σ A R)(aI:T.rows[s]?=D (.ab [.int 3,x,i]))(ax:T.rows[t]?=D (.ab [.int 3,y,j]))(aY:s < a4)(aP:t < a4)(c7:t≠6/\s≠6)(b1:s≠4)(mv:t≠10)
  (aH:az PP (m+3) 48 [.obj A.inst,.int s,.int t] σ=D (.int (-1),σ)):az PP (m+4) 47 [.obj A.inst,.int s,.int t] σ=D (.int 0,σ):=run (m+3) 47 [.obj A.inst,.int s,.int t] σ aH (oh (by decide)) cI.inst bu h.bT (h.row aI aY) cz (h.row ax aP) cz (Bk rfl) (Bk rfl) (bf (dB mv)) (jy [1,2,3,4,5] (by decide)) (jy [1,2,3,4,5] (by decide))
  (aiN (m:=m) h bu cI aI ax aY aP c7 b1)
theorem Dj{s t:V}{r:V×St}(cI:cq σ A R)(h:az PP (m+1) 42 [.obj A.inst,s,t] σ=D r):az PP (m+2) 32 [.obj A.inst,s,t] σ=D r:=run (m+1) 32 [.obj A.inst,s,t] σ h
theorem Ug{s:O}:az PP (m+1) 42 [.obj A.inst,.int s,.int s] σ=D (.bool ae,σ):=run m 42 [.obj A.inst,.int s,.int s] σ (eqT rfl)
section
variable {s t:H}{lS oL:V}(h:TabAt σ T)(bu:gF σ)(cI:cq σ A R)(hm:R.mode≠3)(aI:T.rows[s]?=D lS)(ax:T.rows[t]?=D oL)(us:unmarked lS)(oQ:unmarked oL)(aY:s < a4)(aP:t < a4)(cc:s≠t)
include h bu cI hm aI ax us oQ aY aP cc in
theorem Ui(aH:az PP (m+3) 47 [.obj A.inst,.int s,.int t] σ=D (.int 1,σ)):az PP (m+4) 42 [.obj A.inst,.int s,.int t] σ=D (.bool ae,σ):=run (m+3) 42 [.obj A.inst,.int s,.int t] σ (bf (dB cc)) cI.inst (oO (m:=m) h bu aI us aY) cI.inst (oO (m:=m) h bu ax oQ aP) (bf (dB cc)) cI.inst (bf hm) aH (eqT rfl)
noncomputable def CL(m:H)(σ:St)(A:bw)(R:be)(s t:H):Prop:=R.mode=2->t≠2->∃w:O,w≠1/\az PP m 47 [.obj A.inst,.int t,.int s] σ=D (.int w,σ)
include h bu cI hm aI ax us oQ aY aP cc in
theorem Uk(aH:az PP (m+3) 47 [.obj A.inst,.int s,.int t] σ=D (.int 0,σ))(am:CL (m+3) σ A R s t):az PP (m+4) 42 [.obj A.inst,.int s,.int t] σ=D (.bool aw,σ):=by
 have go:=run (m+3) 42 [.obj A.inst,.int s,.int t] σ (bf (dB cc)) cI.inst (oO (m:=m) h bu aI us aY) cI.inst (oO (m:=m) h bu ax oQ aP) (bf (dB cc)) cI.inst (bf hm) aH (bf (by decide)) cI.inst
 by_cases e:R.mode=2
 ·by_cases aX:t=2
  ·exact go (eqT e) (k7 (by rw[aX];rfl)) (lL (by decide))
  ·obtain⟨w,a9,bE⟩:=am e aX
   exact go (eqT e) (neT (dB aX)) bE (bf a9) (lL (by decide))
 ·exact go (bf e) (lL (by decide))
include h bu cI hm aI ax us oQ aY aP cc in
theorem Uh(aH:az PP (m+3) 47 [.obj A.inst,.int s,.int t] σ=D (.int (-1),σ))(am:CL (m+3) σ A R s t){v:V}(EI:az PP (m+3) 43 [.obj A.inst,.int s,.int t] σ=D (v,af)):
  az PP (m+4) 42 [.obj A.inst,.int s,.int t] σ=D (v,af):=by
 have go:=run (m+3) 42 [.obj A.inst,.int s,.int t] σ (bf (dB cc)) cI.inst (oO (m:=m) h bu aI us aY) cI.inst (oO (m:=m) h bu ax oQ aP) (bf (dB cc)) cI.inst (bf hm) aH (bf (by decide)) cI.inst
 by_cases e:R.mode=2
 ·by_cases aX:t=2
  ·exact go (eqT e) (k7 (by rw[aX];rfl)) (sV (by decide)) EI
  ·obtain⟨w,a9,bE⟩:=am e aX
   exact go (eqT e) (neT (dB aX)) bE (bf a9) (sV (by decide)) EI
 ·exact go (bf e) (sV (by decide)) EI
end
end
noncomputable def dU(l:I V):I (V×V):=l.map fun k=>(k,V.int 1)
structure jO(R:be):Prop where
 dU:R.bY=dU R.aO
 nodup:R.aO.Nodup
 key:∀k∈R.aO,k.isTup=ae/\k.pure=ae
theorem Fj:∀(l:I V) (k:V),cx (dU l) k=if k∈l then D (.int 1)else aa
 |[],k=>by simp[dU,cx]
 |a::l,k=>by
  have bh:=Fj l k
  unfold dU at bh ⊢
  by_cases e:a=k
  ·subst e;simp[cx]
  ·have cH:¬k=a:=fun q=>e q.symm
   simp[cx,e,cH,bh]
theorem MF:∀(l:I V) (k:V),k∉l->lH (dU (l++ [k])) k=dU l
 |[],k,_=>by simp[dU,lH]
 |a::l,k,h=>by
  simp only[dj,qp]at h
  have bh:=MF l k h.2
  unfold dU at bh ⊢
  have e:¬a=k:=fun q=>h.1 q.symm
  simp only[oZ,eI,HG]at bh
  simp[lH,e,bh]
theorem abR(l:I V)(k:V):lH (dU (k::l)) k=dU l:=by simp[dU,lH]
section
variable {m:H}{σ:St}{A:bw}{R:be}
theorem cq.aiq(h:cq σ A R){l:I V}:cq ((σ.set A.aO (.list l)).set A.bY (.dict .t (dU l))) A {R with aO:=l,bY:=dU l}/\bx [A.aO,A.bY] σ ((σ.set A.aO (.list l)).set A.bY (.dict .t (dU l))):=⟨⟨c6 (c6 h.inst h.ap.it.symm) h.ap.xl.symm,h9 (c6 h.bY h.ap.at_.symm),c6 (c6 h.bk h.ap.kt.symm) h.ap.zc,c6 (h9 h.aO) h.ap.at_,c6 (c6 h.da h.ap.to) h.ap.Df,c6 (c6 h.ba h.ap.cN) h.ap.kV,h.apart⟩,(bx.set (.head _)).trans (bx.set (.tail _ (.head _)))⟩
theorem Je(l:I V):(dU l).length=l.length:=d5 _
theorem Jd{l:I V}{k:V}(h:k∈l):cx (dU l) k=D (.int 1):=(Fj l k).trans (a7 h)
theorem Jf{l:I V}{k:V}(h:k∉l):cx (dU l) k=aa:=(Fj l k).trans (bz h)
theorem J9{l:I V}{k:V}(h:k∈l)(am:k.isTup=ae/\k.pure=ae)(aj:l.length<=a4):(gp.t.ok k && mE (dU l) k && decide ((dU l).length<=a4))=ae:=by
 rw[Ff am.1 am.2,mE,Jd h,Je,cW aj];rfl
theorem J3:∀(k:H) (w2:H) (b:H) (σ:St) (R:be) (x:V),R.aO.length=b+k->k < w2->R.aO.length<=a4->jO R->cq σ A R->
  ∃af,l0 (fun J σ=>(aG PP (az PP m) (.ay .gt (.len (.attr (.aq 0) 38)) (.sub (.aq 1) (.lit (.int 1)))) J σ).bind fun(v,σ)=>(eh σ v).bind fun t=>D (t,σ)) (fun J σ=>cQ PP (az PP m) [.mo (.attr (.aq 0) 36) (.pop (.attr (.aq 0) 38))] J σ) w2 [D (.obj A.inst),D (.ab [x,.int b])] σ=
   D (.next,[D (.obj A.inst),D (.ab [x,.int b])],af)/\cq af A {R with aO:=R.aO.take b,bY:=dU (R.aO.take b)}/\bx [A.aO,A.bY] σ af
 |_,0,_,_,_,_,_,bH,_,_,_=>absurd bH (yI _)
 |0,w2+1,b,σ,R,x,aj,bH,hz,fr,h=>by
  refine⟨σ,Qt (av (jB PP (az PP m) (.ay .gt (.len (.attr (.aq 0) 38)) (.sub (.aq 1) (.lit (.int 1)))) [D (.obj A.inst),D (.ab [x,.int b])] σ h.inst (mH h.aO hz) hD (Ab (by rw[aj];exact Hz _))) rfl), ?_,bx.refl ..⟩
  rw[show R.aO.take b=R.aO from List.take_of_length_le (gb aj),<-fr.dU];exact h
 |k+1,w2+1,b,σ,R,x,aj,bH,hz,fr,h=>by
  obtain⟨hl,dy,q5⟩:∃hl dy,R.aO=hl++ [dy]:=by
   rcases List.eq_nil_or_concat R.aO with q|⟨hl,dy,q⟩
   ·rw[q]at aj;cases aj
   ·exact⟨hl,dy,by rw[q,List.concat_eq_append]⟩
  have cj:=fr.nodup
  rw[q5]at cj
  have cj:=Cp.mp cj
  have ew:dy∈R.aO:=by rw[q5];exact Re _ (.head _)
  have cL:R.aO.length=hl.length+1:=by rw[q5];exact fw ..
  have MK:hl.length=b+k:=HL (cL.symm.trans aj)
  obtain⟨aD,bc⟩:=h.aiq (l:=hl)
  obtain⟨o6,a9,bE,cG⟩:=J3 k w2 b _ {R with aO:=hl,bY:=dU hl} x MK (akn bH) (cp (by rw[cL];exact eJ _) hz) ⟨rfl,cj.1,fun k am=>fr.key k (by rw[q5];exact tS _ am)⟩ aD
  have aX:R.aO.dropLast=hl:=by rw[q5,ajQ]
  have bZ:R.aO.getLast?=D dy:=by rw[q5,aj0]
  refine⟨o6,Qs (av (jB PP (az PP m) (.ay .gt (.len (.attr (.aq 0) 38)) (.sub (.aq 1) (.lit (.int 1)))) [D (.obj A.inst),D (.ab [x,.int b])] σ h.inst (mH h.aO hz) hD (Ac (by rw[aj];omega))) rfl) ?_ a9, ?_,bc.trans cG⟩
  ·have st:=g4 PP (az PP m) [.mo (.attr (.aq 0) 36) (.pop (.attr (.aq 0) 38))] [D (.obj A.inst),D (.ab [x,.int b])] σ h.inst h.inst h.aO hz bZ ((c6 h.bY h.ap.at_.symm).trans (by rw[fr.dU])) (J9 ew (fr.key dy ew) hz)
   rw[aX,q5,MF hl dy fun q=>cj.2.2 dy q dy (.head _) rfl]at st
   exact st
  ·have:R.aO.take b=hl.take b:=by rw[q5,List.take_append_of_le_length (by rw[MK];exact cn ..)]
   rw[this];exact bE
end
section
variable {m:H}{σ:St}{A:bw}{R:be}
theorem jO.NK(fr:jO R){ns:I V}:jO {R with ba:=ns}:=⟨fr.dU,fr.nodup,fr.key⟩
theorem WA{a b:H}(h:cq σ A R)(fr:jO R)(ax:b<=R.aO.length)(hz:R.aO.length < 30000)(aZ:R.ba.length<=a4):
  ∃af,az PP (m+1) 40 [.obj A.inst,.ab [.int a,.int b]] σ=D (.none,af)/\cq af A {R with ba:=R.ba.take a,aO:=R.aO.take b,bY:=dU (R.aO.take b)}/\bx [A.ba,A.aO,A.bY] σ af:=by
 obtain⟨ag,s1⟩:=h.FZ (ns:=R.ba.take a)
 obtain⟨af,a9,bE,cG⟩:=J3 (m:=m) (R.aO.length - b) 30000 b _ {R with ba:=R.ba.take a} (.int a) (akh ax).symm (c9 (Nat.sub_le ..) hz) (cp (kf hz) (by decide)) fr.NK ag
 exact⟨af,run m 40 [.obj A.inst,.ab [.int a,.int b]] σ h.inst h.da cz h.ba ⟨kd a,aZ⟩ a9,bE,(s1.dC fun i q=>dt.mp q▸ .head _).trans (cG.dC fun i q=> .tail _ q)⟩
noncomputable def pP(K:I (V×V))(l:I V):I (V×V):=l.foldl (fun K k=>dI K k (.bool ae)) K
theorem u2:∀(l:I (V×V)) (k v:V),(dI l k v).length<=l.length+1
 |[],_,_=>by simp[dI]
 |(a,u)::r,k,v=>by
  unfold dI
  split
  ·simp
  ·have:=u2 r k v;simp;omega
theorem cq.Jb(h:cq σ A R){l:I (V×V)}:cq (σ.set A.bY (.dict .t l)) A {R with bY:=l}/\bx [A.bY] σ (σ.set A.bY (.dict .t l)):=⟨⟨c6 h.inst h.ap.xl.symm,h9 h.bY,c6 h.bk h.ap.zc,c6 h.aO h.ap.at_,c6 h.da h.ap.Df,c6 h.ba h.ap.kV,h.apart⟩,bx.set (.head _)⟩
theorem cq.AM(h:cq σ A R){l:I (V×V)}:cq (σ.set A.bk (.dict .t l)) A {R with bk:=l}/\bx [A.bk] σ (σ.set A.bk (.dict .t l)):=⟨⟨c6 h.inst h.ap.Aw.symm,c6 h.bY h.ap.zc.symm,h9 h.bk,c6 h.aO h.ap.kt,c6 h.da h.ap.er,c6 h.ba h.ap.hk,h.apart⟩,bx.set (.head _)⟩
noncomputable abbrev JO:I S:=[.mo (.attr (.aq 0) 36) (.aq 2),.iff (.aq 1) [.fG (.attr (.aq 0) 37) (.aq 2) (.lit (.bool ae))] []]
theorem DD{live:St->au}{K3:I V}(pI:∀aF:St,aF[A.aO]?=D (.list K3)->live aF=ae):∀(l:I V) (clean:au) (σ:St) (R:be) (s2:aJ V),cq σ A R->R.aO=K3->R.bY=dU l->l.Nodup->(∀k∈l,k.isTup=ae/\k.pure=ae)->R.bk.length+l.length < a4->
  ∃af x5,h8 live 2 (fun J σ=>cQ PP (az PP m) JO J σ) l [D (.obj A.inst),D (.bool clean),s2] σ=
   D (.next,[D (.obj A.inst),D (.bool clean),x5],af)/\cq af A {R with bY:=[],bk:=if clean then pP R.bk l else R.bk}/\bx [A.bY,A.bk] σ af
 |[],clean,σ,R,s2,h,aP,aI,_,_,_=>by
  refine⟨σ,s2,sr (pI σ (aP▸h.aO)), ?_,bx.refl ..⟩
  have e:R.bY=[]:=aI
  have:(if clean then pP R.bk []else R.bk)=R.bk:=by cases clean <;>rfl
  rw[this,<-e];exact h
 |x::l,clean,σ,R,s2,h,aP,aI,cj,am,hz=>by
  rw[hH]at cj
  have aA:=am x (.head _)
  have aj:(x::l).length<=a4:=kf (c9 (yH ..) hz)
  rw[qd]at hz
  obtain⟨ag,s1⟩:=h.Jb (l:=dU l)
  have Ai:=h.bY
  rw[aI]at Ai
  have st:=g4 PP (az PP m) JO [D (.obj A.inst),D (.bool clean),D x] σ h.inst Ai (J9 (.head _) aA aj)
  rw[abR]at st
  cases clean with
  |false=>
   obtain⟨af,x5,a9,bE,cG⟩:=DD pI l aw _ {R with bY:=dU l} (D x) ag aP rfl cj.2 (fun k q=>am k (.tail _ q)) (qh hz)
   exact⟨af,x5,mu (pI σ (aP▸h.aO)) st a9,bE,(s1.dC fun i q=>dt.mp q▸ .head _).trans cG⟩
  |true=>
   obtain⟨ah,aft⟩:=ag.AM (l:=dI R.bk x (.bool ae))
   obtain⟨af,x5,a9,bE,cG⟩:=DD pI l ae _ {R with bY:=dU l,bk:=dI R.bk x (.bool ae)} (D x) ah aP rfl cj.2 (fun k q=>am k (.tail _ q)) (c9 (rU (u2 R.bk x (.bool ae)) _) (by rw[jK,l6 1];exact hz))
   exact⟨af,x5,mu (pI σ (aP▸h.aO)) ((st ag.inst).1 ag.bk (ei.mpr ⟨Ff aA.1 aA.2,cW (c9 (cn ..) hz)⟩)) a9,bE,((s1.dC fun i q=>dt.mp q▸ .head _).trans (aft.dC fun i q=>dt.mp q▸ .tail _ (.head _))).trans cG⟩
noncomputable def zC(R:be)(clean:au):be:= {R with aO:=[],bY:=[],bk:=if clean then pP R.bk R.aO else R.bk}
theorem MZ{σ aF:St}{n:H}{l:I V}(h:σ[n]?=D (.list l))(aD:aF[n]?=D (.list l)):eQ σ (.obj n) aF=ae:=by
 unfold eQ;dsimp only;rw[h,aD];exact cW rfl
theorem iC{σ:St}{x:H}{c:Cell}(h:σ[x]?=D c):x < σ.length:=(fj.mp h).1
theorem e4{σ g:St}{x:H}{c:Cell}(h:σ[x]?=D c):(σ++g)[x]?=D c:=(jJ (iC h)).trans h
theorem adk{A:bw}(h:A.Apart):[A.inst,A.bY,A.bk,A.aO,A.da,A.ba].Nodup:=by
 simp only[hH,dj,nX,t5,qp]
 exact⟨⟨h.xl,h.Aw,h.it,h.io,h.ox⟩,⟨h.zc,h.at_,h.Df,h.kV⟩,⟨h.kt,h.er,h.hk⟩,⟨h.to,h.cN⟩,h.or,id,.nil⟩
theorem Wj{clean:au}(h:cq σ A R)(fr:jO R)(hz:R.bk.length+R.aO.length < a4):
  ∃af cN,az PP (m+1) 44 [.obj A.inst,.bool clean] σ=D (.none,af)/\cq af {A with aO:=cN} (zC R clean)/\bx [A.bY,A.bk,A.inst] σ af/\σ.length<=cN/\cN < af.length:=by
 obtain⟨aC,s2,a9,bE,cG⟩:=DD (m:=m) (fun aF e=>MZ h.aO e) R.aO clean σ R aa h rfl fr.dU fr.nodup fr.key hz
 have ap:=h.ap
 have hi:=iC bE.inst
 have ne:∀ {x:H} {c:Cell},aC[x]?=D c->x≠aC.length:=fun q=>hI (iC q)
 refine⟨_,aC.length,(run m 44 [.obj A.inst,.bool clean] σ h.inst (sM h.aO)).1 a9 (e4 bE.inst) rfl,⟨h9 (e4 bE.inst),c6 (e4 bE.bY) ap.xl,c6 (e4 bE.bk) ap.Aw,c6 fP (ne bE.inst),c6 (e4 bE.da) ap.io,c6 (e4 bE.ba) ap.ox, ?_⟩,
  (cG.dC fun i q=>(dj.mp q).elim (· ▸ .head _) fun q=>dt.mp q▸ .tail _ (.head _)).trans (bx.append.trans (bx.set (.tail _ (.tail _ (.head _))))),cG.1,by rw[tR,fw];exact rV _⟩
 exact adk {ap with it:=ne bE.inst,at_:=ne bE.bY,kt:=ne bE.bk,to:=(ne bE.da).symm,cN:=(ne bE.ba).symm}
end
noncomputable def cB(s t:O):V:= .ab [.int s,.int t]
noncomputable def lR(R:be)(s t:O):be:= {R with dn:=R.dn+1,deep:=R.deep+1,aO:=R.aO++ [cB s t],bY:=dU (R.aO++ [cB s t])}
section
variable {m:H}{σ:St}{A:bw}{R:be}
theorem cq.xp(h:cq σ A R){R':be}(aT:R'.bY=R.bY)(aX:R'.bk=R.bk)(bZ:R'.aO=R.aO)(dP:R'.ba=R.ba):cq (σ.set A.inst (.inst 5 (g0 A R'))) A R'/\bx [A.inst] σ (σ.set A.inst (.inst 5 (g0 A R'))):=⟨⟨h9 h.inst,aT▸c6 h.bY h.ap.xl,aX▸c6 h.bk h.ap.Aw,bZ▸c6 h.aO h.ap.it,c6 h.da h.ap.io,dP▸c6 h.ba h.ap.ox,h.apart⟩,bx.set (.head _)⟩
theorem cq.aip(h:cq σ A R){l:I V}:cq (σ.set A.aO (.list l)) A {R with aO:=l}/\bx [A.aO] σ (σ.set A.aO (.list l)):=⟨⟨c6 h.inst h.ap.it.symm,c6 h.bY h.ap.at_.symm,c6 h.bk h.ap.kt.symm,h9 h.aO,c6 h.da h.ap.to,c6 h.ba h.ap.cN,h.apart⟩,bx.set (.head _)⟩
theorem rh(s t:O):gp.t.ok (cB s t)=ae:=rfl
theorem Mu{s t:O}{v:V}(h:cq σ A R)(am:cx R.bk (cB s t)=D v):az PP (m+1) 43 [.obj A.inst,.int s,.int t] σ=D (v,σ):=run m 43 [.obj A.inst,.int s,.int t] σ h.inst (A2 h.bk (rh s t) am) h.inst (G2 h.bk (rh s t) am)
theorem abH{s t:O}(h:cq σ A R)(fr:jO R)(am:cx R.bk (cB s t)=aa)(ew:cB s t∈R.aO):az PP (m+1) 43 [.obj A.inst,.int s,.int t] σ=D (.bool ae,σ):=run m 43 [.obj A.inst,.int s,.int t] σ h.inst (vb h.bk (rh s t) am) h.inst (A2 h.bY (rh s t) (by rw[fr.dU];exact Jd ew))
theorem k9{a:H}{l:I H}(h:a∈l):∀i∈ [a],i∈l:=fun i q=>dt.mp q▸h
theorem Mv{s t:O}(h:cq σ A R)(fr:jO R)(am:cx R.bk (cB s t)=aa)(ew:cB s t∉R.aO)(LN:R.dn < 20000)(Z1:R.deep < 60)(aZ:R.ba.length<=a4)(aP:R.aO.length < 20000):
  ∃aC,cq aC A (lR R s t)/\jO (lR R s t)/\bx [A.inst,A.bY,A.aO] σ aC/\gd PP (az PP (m+1)) (r7.drop 10) [D (.obj A.inst),D (.int s),D (.int t),D (cB s t),D (.ab [.int (R.ba.length:H),.int (R.aO.length:H)]),aa] aC (nv (m+1) 43 [.obj A.inst,.int s,.int t] σ):=by
 have aI:=h.xp (R':= {R with dn:=R.dn+1}) rfl rfl rfl rfl
 have ax:=aI.1.Jb (l:=dI R.bY (cB s t) (.int 1))
 have aE:=ax.1.aip (l:=R.aO++ [cB s t])
 have hd:=aE.1.xp (R':= {R with dn:=R.dn+1,deep:=R.deep+1,aO:=R.aO++ [cB s t],bY:=dI R.bY (cB s t) (.int 1)}) rfl rfl rfl rfl
 have aY:dI R.bY (cB s t) (.int 1)=dU (R.aO++ [cB s t]):=by
  rw[fr.dU,xw _ _ _ (Jf ew),dU,dU,oZ];rfl
 have bO:R.aO.length < a4:=fN aP (by decide)
 refine⟨_,by rw[lR,<-aY];exact hd.1,⟨rfl, ?_,fun x aA=> ?_⟩,((aI.2.dC (k9 (.head _))).trans (ax.2.dC (k9 (.tail _ (.head _))))).trans ((aE.2.dC (k9 (.tail _ (.tail _ (.head _))))).trans (hd.2.dC (k9 (.head _)))),
  run (m+1) 43 [.obj A.inst,.int s,.int t] σ h.inst (vb h.bk (rh s t) am) h.inst (vb h.bY (rh s t) (by rw[fr.dU];exact Jf ew)) h.inst (oh (tQ.mpr LN)) h.inst (oh (tQ.mpr Z1)) h.inst (oh (tQ.mpr LN))
   h.inst rfl h.inst rfl aI.1.inst (Nf (m:=m) aI.1 aZ (kf bO)) aI.1.inst|>.1 aI.1.bY (ei.mpr ⟨rh s t,cW (by show R.bY.length < a4;rw[fr.dU,Je];exact bO)⟩) ax.1.inst ax.1.aO ax.1.aO bO aE.1.inst rfl aE.1.inst rfl⟩
 ·exact Cp.mpr ⟨fr.nodup,hH.mpr ⟨nofun,.nil⟩,fun x aA y bo q=>ew (dt.mp bo▸q▸aA)⟩
 ·rcases l4.mp aA with aA|aA
  ·exact fr.key x aA
  ·rw[dt.mp aA];exact⟨rfl,rfl⟩
end
section
variable {m:H}{aC bn:St}{A:bw}{cv b2:be}
theorem cq.zN{σ:St}{R:be}(h:cq σ A R):cq (σ.set A.inst (.inst 5 (g0 A {R with deep:=R.deep - 1}))) A {R with deep:=R.deep - 1}/\bx [A.inst] σ (σ.set A.inst (.inst 5 (g0 A {R with deep:=R.deep - 1}))):=h.xp rfl rfl rfl rfl
theorem jO.Kh{R:be}(fr:jO R){d:O}:jO {R with deep:=d}:=⟨fr.dU,fr.nodup,fr.key⟩
variable {s t:O}{ans:au}{k sp:V}{ar:ev->Loc->St->Prop}
theorem C9(bR:gd PP (az PP m) (r7.drop 10) [D (.obj A.inst),D (.int s),D (.int t),D k,D sp,aa] aC ar)(ag:cq aC A cv)(om:az PP m (if cv.mode=3 then 58 else 52) [.obj A.inst,.int s,.int t] aC=D (.bool ans,bn))(ah:cq bn A b2):
  gd PP (az PP m) (r7.drop 12) [D (.obj A.inst),D (.int s),D (.int t),D k,D sp,D (.bool ans)] (bn.set A.inst (.inst 5 (g0 A {b2 with deep:=b2.deep - 1}))) ar:=by
 by_cases e:cv.mode=3
 ·rw[a7 e]at om;exact bR ag.inst (eqT e) om ah.inst rfl ah.inst rfl
 ·rw[bz e]at om;exact bR ag.inst (bf e) om ah.inst rfl ah.inst rfl
noncomputable def kC(R:be)(a b:H)(key:V):be:= {R with deep:=R.deep - 1,ba:=R.ba.take a,aO:=R.aO.take b,bY:=dU (R.aO.take b),bk:=if b=0\/R.mode≠4 then dI R.bk key (.bool aw)else R.bk}
theorem Kr{a b:H}(bR:gd PP (az PP (m+1)) (r7.drop 10) [D (.obj A.inst),D (.int s),D (.int t),D (cB s t),D (.ab [.int a,.int b]),aa] aC ar)(ag:cq aC A cv)(om:az PP (m+1) (if cv.mode=3 then 58 else 52) [.obj A.inst,.int s,.int t] aC=D (.bool aw,bn))(ah:cq bn A b2)(fr:jO b2)(ax:b<=b2.aO.length)(aP:b2.aO.length < 30000)(aZ:b2.ba.length<=a4)(am:b2.bk.length < a4):
  ∃ct bt,ar (.ret (.bool aw)) bt ct/\cq ct A (kC b2 a b (cB s t))/\bx [A.inst,A.ba,A.aO,A.bY,A.bk] bn ct:=by
 have go:=C9 bR ag om ah
 obtain⟨aN,s3⟩:=ah.zN
 obtain⟨iq,eL,b1,s4⟩:=WA (m:=m) (a:=a) (b:=b) aN fr.Kh ax aP aZ
 have s5:=(s3.dC (k9 (l:=[A.inst,A.ba,A.aO,A.bY,A.bk]) (.head _))).trans (s4.dC fun i q=> .tail _ (tS [A.bk] q))
 have LL:(gp.t.ok (cB s t) && decide (b2.bk.length < a4))=ae:=cW am
 have yes:=fun{bt:Loc} (q:b=0\/b2.mode≠4) (alF:ar (.ret (.bool aw)) bt (iq.set A.bk (.dict .t (dI b2.bk (cB s t) (.bool aw)))))=>(⟨_,_,alF,by unfold kC;rw[a7 q];exact b1.AM.1,s5.trans (b1.AM.2.dC (k9 (.tail _ (.tail _ (.tail _ (.tail _ (.head _)))))))⟩:∃ct bt,ar (.ret (.bool aw)) bt ct/\cq ct A (kC b2 a b (cB s t))/\bx [A.inst,A.ba,A.aO,A.bY,A.bk] bn ct)
 by_cases q:b=0
 ·exact yes (.inl q) ((go eL hD (eqT (by rw[q];rfl)) b1.inst).1 b1.bk LL)
 by_cases e:b2.mode=4
 ·exact⟨iq,_,go eL hD (bf (dB q)) b1.inst (k7 e),by unfold kC;rw[bz (qp.mpr ⟨q,not_not_intro e⟩)];exact b1,s5⟩
 ·exact yes (.inr e) ((go eL hD (bf (dB q)) b1.inst (neT e) b1.inst).1 b1.bk LL)
theorem Xf{a b:H}(bR:gd PP (az PP (m+1)) (r7.drop 10) [D (.obj A.inst),D (.int s),D (.int t),D (cB s t),D (.ab [.int a,.int b]),aa] aC ar)(ag:cq aC A cv)(om:az PP (m+1) (if cv.mode=3 then 58 else 52) [.obj A.inst,.int s,.int t] aC=D (.bool ae,bn))(ah:cq bn A b2)(ax:b≠0):
  ∃ct bt,ar (.ret (.bool ae)) bt ct/\cq ct A {b2 with deep:=b2.deep - 1}/\bx [A.inst] bn ct:=⟨_,_,C9 bR ag om ah hD (bf (dB ax)),ah.zN.1,ah.zN.2⟩
theorem Xg{a:H}(bR:gd PP (az PP (m+1)) (r7.drop 10) [D (.obj A.inst),D (.int s),D (.int t),D (cB s t),D (.ab [.int a,.int 0]),aa] aC ar)(ag:cq aC A cv)(om:az PP (m+1) (if cv.mode=3 then 58 else 52) [.obj A.inst,.int s,.int t] aC=D (.bool ae,bn))(ah:cq bn A b2)(fr:jO b2)(aZ:b2.ba.length<=a4)(am:b2.bk.length+b2.aO.length < a4)(aE:b2.ba.length=a):
  ∃ct cN bt,ar (.ret (.bool ae)) bt ct/\cq ct {A with aO:=cN} (zC {b2 with deep:=b2.deep - 1} ae)/\bx [A.bY,A.bk,A.inst] bn ct/\bn.length<=cN/\cN < ct.length:=by
 obtain⟨aN,s3⟩:=ah.zN
 obtain⟨iq,cN,eL,b1,s4,cL,ci⟩:=Wj (m:=m) (clean:=ae) aN fr.Kh am
 exact⟨iq,cN,_,C9 bR ag om ah hD (eqT rfl) aN.inst aN.da (mH aN.ba aZ) cz (eqT (by rw[<-aE])) eL,b1,(s3.dC (k9 (.tail _ (.tail _ (.head _))))).trans s4,cp s3.1 cL,ci⟩
end
section
variable {m:H}{σ af:St}{T:ak}{A:bw}{R:be}
noncomputable def kY(b:O):O:=if b < 0\/b=0 then 1 else b
theorem aeq{p:H}{b:O}(h:TabAt σ T)(ax:T.bounds[p]?=D b)(ao:p < a4):az PP (m+1) 60 [.obj 2,.int p] σ=D (.int (kY b),σ):=by
 unfold kY
 by_cases ag:b < 0
 ·rw[a7 (.inl ag)];exact run m 60 [.obj 2,.int p] σ h.bT (h.bound ax ao) (sV ag)
 by_cases ah:b=0
 ·rw[a7 (.inr ah)];exact run m 60 [.obj 2,.int p] σ h.bT (h.bound ax ao) (lL ag) (eqT ah)
 ·rw[bz (qp.mpr ⟨ag,ah⟩)];exact run m 60 [.obj 2,.int p] σ h.bT (h.bound ax ao) (lL ag) (bf ah)
theorem aek{s t:H}{k:O}{rest:I V}(h:TabAt σ T)(bu:gF σ)(cI:cq σ A R)(aY:T.rows[s]?=D (.ab (.int k::rest)))(am:k≠10)(hz:s < a4):az PP (m+1) 73 [.obj A.inst,.int s,.int t] σ=D (.bool aw,σ):=run m 73 [.obj A.inst,.int s,.int t] σ cI.inst bu h.bT (h.row aY hz) cz (neT am)
theorem ael{s t p:H}{b:O}{ans:au}(h:TabAt σ T)(bu:gF σ)(cI:cq σ A R)(aY:T.rows[s]?=D (.ab [.int 10,.int p]))(ax:T.bounds[p]?=D b)(hz:s < a4)(ao:p < a4)(cc:kY b≠s)
  (aI:az PP (m+1) 32 [.obj A.inst,.int (kY b),.int t] σ=D (.bool ans,af)):az PP (m+2) 73 [.obj A.inst,.int s,.int t] σ=D (.bool ans,af):=run (m+1) 73 [.obj A.inst,.int s,.int t] σ cI.inst bu h.bT (h.row aY hz) cz (k7 rfl) cI.inst bu hD (aeq (m:=m) h ax ao) (neT cc) cI.inst aI
theorem LP{s t:V}{ans:au}(cI:cq σ A R)(hm:R.mode≠3)(ao:az PP (m+1) 73 [.obj A.inst,s,t] σ=D (.bool ans,af)):az PP (m+2) 72 [.obj 20,.obj A.inst,s,t] σ=D (.bool ans,af):=run (m+1) 72 [.obj 20,.obj A.inst,s,t] σ cI.inst (neT hm) ao
theorem JE{s t:V}{ans:au}(cI:cq σ A R)(bg:ua σ)(ao:az PP (m+1) 72 [.obj 20,.obj A.inst,s,t] σ=D (.bool ans,af)):az PP (m+2) 37 [.obj A.inst,.int 2,s,t] σ=D (.bool ans,af):=run (m+1) 37 [.obj A.inst,.int 2,s,t] σ cI.inst bg.1 bg.1 rfl rfl bg.2 ao
theorem ahw{s t:H}{a b:O}{cM f5:I V}{ans:au}(h:TabAt σ T)(bu:gF σ)(cI:cq σ A R)(bg:ua σ)(hm:R.mode≠3)(aI:T.rows[s]?=D (.ab (.int a::cM)))(ax:T.rows[t]?=D (.ab (.int b::f5)))(aY:s < a4)(aP:t < a4)
  (c7:a≠6/\b≠6) (hy:a≠7/\b≠7) (hd:hf a\/hf b) (ao:az PP (m+1) 73 [.obj A.inst,.int s,.int t] σ=D (.bool ans,af)):az PP (m+4) 52 [.obj A.inst,.int s,.int t] σ=D (.bool ans,af):=run (m+3) 52 [.obj A.inst,.int s,.int t] σ cI.inst bu h.bT (h.row aI aY) cz (h.row ax aP) cz (bf c7.1) (bf c7.2) (afm (m:=m+2) hy hd) (JE (m:=m+1) cI bg (LP (m:=m) cI hm ao))
end
section
variable {m:H}{σ af:St}{T:ak}{A:bw}{R:be}{fE:H}{M:O}{Inv:H->St->Prop}{cost:O->H}{ans:O->au}
noncomputable def Ia(m fE:H)(Inv:H->St->Prop)(cost:O->H)(ans:O->au)(t:O)(p:O):Prop:=∀j σ,Inv (j+cost p) σ->∃af,az PP m 32 [.obj fE,.int p,.int t] σ=D (.bool (ans p),af)/\Inv j af
noncomputable def CS(fE:H)(M:O)(Inv:H->St->Prop):Prop:=∀j σ,Inv j σ->∃A R,σ[fE]?=D (.inst 5 (g0 A R))/\R.mode=M
noncomputable abbrev K2:I S:=[.iff (.b6 (.aq 0) 45 [.aq 3,.aq 2]) [.iff (.ay .eq (.attr (.aq 0) 34) (.aV 49)) [.ret (.lit (.bool ae))] []] [.iff (.ay .ne (.attr (.aq 0) 34) (.aV 49)) [.ret (.lit (.bool aw))] []]]
noncomputable abbrev Ek(fE:H)(s t:O)(s3:aJ V):Loc:=[D (.obj fE),D (.int s),D (.int t),s3]
theorem K0{live:St->au}(aj:∀aF,live aF=ae)(e9:CS fE M Inv)(oo:∀i j σ,Inv (i+j) σ->Inv i σ){s t:O}:∀(ps:I O) (j:H) (σ:St) (s3:aJ V),Inv (j+(ps.map cost).sum) σ->(∀p∈ps,Ia m fE Inv cost ans t p)->
  ∃af p0,Inv j af/\h8 live 3 (fun J σ=>cQ PP (az PP m) K2 J σ) (ps.map .int) (Ek fE s t s3) σ=
   D (if M=2 then(if ps.any ans then .ret (.bool ae)else .next)else(if ps.all ans then .next else .ret (.bool aw)),Ek fE s t p0,af)
 |[],j,σ,s3,hi,_=>⟨σ,s3,hi,(sr (aj σ)).trans (by split <;>rfl)⟩
 |p::ps,j,σ,s3,hi,ao=>by
  rw[eI,aka,l6 (cost p),<-jK]at hi
  obtain⟨aC,a1,c1⟩:=ao p (.head _) _ σ hi
  obtain⟨A,R,f1,f2⟩:=e9 _ σ hi
  obtain⟨A',R',g1,g2⟩:=e9 _ aC c1
  obtain⟨bn,p0,dQ,w⟩:=K0 (live:=live) aj e9 oo (s:=s) (t:=t) ps j aC (D (.int p)) c1 (fun x aA=>ao x (.tail _ aA))
  have st:=g4 PP (az PP m) K2 (Ek fE s t (D (.int p))) σ f1
  rw[eI,Ck,HA]
  by_cases e:M=2
  ·rw[a7 e]at w ⊢
   have g3:=g2.trans e
   cases q:ans p with
   |true=>rw[q]at a1;exact⟨aC,_,oo _ _ _ c1,Ef (aj σ) (st a1 g1 (eqT g3))⟩
   |false=>rw[q]at a1;exact⟨bn,p0,dQ,mu (aj σ) (st a1 g1 (k7 g3)) w⟩
  ·rw[bz e]at w ⊢
   have g3:R'.mode≠2:=fun q=>e (g2.symm.trans q)
   cases q:ans p with
   |true=>rw[q]at a1;exact⟨bn,p0,dQ,mu (aj σ) (st a1 g1 (bf g3)) w⟩
   |false=>rw[q]at a1;exact⟨aC,_,oo _ _ _ c1,Ef (aj σ) (st a1 g1 (neT g3))⟩
theorem Zn{j:H}{s:H}{t:O}{ps:I O}(e9:CS fE M Inv)(oo:∀i j σ,Inv (i+j) σ->Inv i σ)(h:TabAt σ T)(bu:gF σ)(ao:gY T s ps)(hi:Inv (j+(ps.map cost).sum) σ)(aI:∀p∈ps,Ia (m+1) fE Inv cost ans t p):
  ∃af,az PP (m+2) 54 [.obj fE,.int s,.int t] σ=D (.bool (if M=2 then ps.any ans else ps.all ans),af)/\Inv j af:=by
 obtain⟨A,R,f1,f2⟩:=e9 _ σ hi
 obtain⟨af,p0,dQ,w⟩:=K0 (m:=m+1) (live:=eQ σ (.ab (ps.map .int))) (fun _=>rfl) e9 oo (s:=(s:O)) (t:=t) ps j σ aa hi aI
 obtain⟨A',R',g1,g2⟩:=e9 _ af dQ
 refine⟨af, ?_,dQ⟩
 have go:=(run (m+1) 54 [.obj fE,.int s,.int t] σ f1 bu (vp (m:=m) h ao) rfl).1
 by_cases e:M=2
 ·rw[a7 e]at w ⊢
  cases q:ps.any ans with
  |true=>rw[q]at w;exact go w
  |false=>rw[q]at w;exact go w g1 (k7 (g2.trans e))
 ·rw[bz e]at w ⊢
  cases q:ps.all ans with
  |true=>rw[q]at w;exact go w g1 (neT fun q=>e (g2.symm.trans q))
  |false=>rw[q]at w;exact go w
end
section
variable {m:H}{σ af:St}{T:ak}{fE:H}{M:O}{Inv:H->St->Prop}{cost:O->H}{ans:O->au}
noncomputable def CR(m fE:H)(N:H)(Inv:H->St->Prop):Prop:=N<=a4/\∀j σ,Inv j σ->∃A R,A.inst=fE/\cq σ A R/\R.ba.length=N/\R.aO.length<=a4
noncomputable abbrev Po:I S:=[.set 5 (.b6 (.aq 0) 48 []),.iff (.b6 (.aq 0) 45 [.aq 1,.aq 4]) [.iff (.ay .eq (.len (.attr (.attr (.aq 0) 41) 0)) (.sub (.aq 5) (.lit (.int 0)))) [.ret (.lit (.bool ae))] [],.iff (.ay .is (.aq 3) (.lit (.none))) [.set 3 (.ab [.slice (.attr (.attr (.aq 0) 41) 0) (D (.sub (.aq 5) (.lit (.int 0)))) aa,.slice (.attr (.aq 0) 38) (D (.sub (.aq 5) (.lit (.int 1)))) aa])] [],.expr (.b6 (.aq 0) 50 [.aq 5])] []]
noncomputable def Ib(m fE:H)(Inv:H->St->Prop)(cost:O->H)(ans:O->au)(s:O)(p:O):Prop:=∀j σ,Inv (j+cost p) σ->∃af,az PP m 32 [.obj fE,.int s,.int p] σ=D (.bool (ans p),af)/\Inv j af
noncomputable abbrev GS(fE:H)(s:O)(pv:V)(s4 s5:aJ V):Loc:=[D (.obj fE),D (.int s),D pv,D .none,s4,s5]
theorem Pj{N:H}{live:St->au}(aj:∀aF,live aF=ae)(iz:CR (m+1) fE N Inv)(oo:∀i j σ,Inv (i+j) σ->Inv i σ){s:O}{pv:V}:∀(ps:I O) (j:H) (σ:St) (s4 s5:aJ V),Inv (j+(ps.map cost).sum) σ->(∀p∈ps,Ib (m+1) fE Inv cost ans s p)->
  ∃af mM BF,Inv j af/\h8 live 4 (fun J σ=>cQ PP (az PP (m+1)) Po J σ) (ps.map .int) (GS fE s pv s4 s5) σ=
   D (if ps.any ans then .ret (.bool ae)else .next,GS fE s pv mM BF,af)
 |[],j,σ,s4,s5,hi,_=>⟨σ,s4,s5,hi,sr (aj σ)⟩
 |p::ps,j,σ,s4,s5,hi,ao=>by
  rw[eI,aka,l6 (cost p),<-jK]at hi
  obtain⟨aC,a1,c1⟩:=ao p (.head _) _ σ hi
  obtain⟨A,R,hg,f1,f2,kp⟩:=iz.2 _ σ hi
  obtain⟨A',R',Zq,g1,g2,g3⟩:=iz.2 _ aC c1
  have k1:aC[fE]?=D (.inst 5 (g0 A' R')):=by rw[<-Zq];exact g1.inst
  have j4:R.ba.length<=a4:=f2.symm▸iz.1
  have L0:σ[fE]?=D (.inst 5 (g0 A R)):=by rw[<-hg];exact f1.inst
  have mk:=Nf (m:=m) f1 j4 kp
  rw[hg]at mk
  have st:=g4 PP (az PP (m+1)) Po (GS fE s pv (D (.int p)) s5) σ L0 mk L0
  rw[eI,Ck]
  cases q:ans p with
  |true=>
   rw[q]at a1
   exact⟨aC,_,_,oo _ _ _ c1,Ef (aj σ) (st a1 k1 g1.da (sR g1.ba g2 iz.1) cz (eqT (by rw[f2])))⟩
  |false=>
   rw[q]at a1
   obtain⟨bn,mM,BF,dQ,w⟩:=Pj (live:=live) aj iz oo (s:=s) (pv:=pv) ps j aC (D (.int p)) _ c1 (fun x aA=>ao x (.tail _ aA))
   exact⟨bn,mM,BF,dQ,mu (aj σ) (st a1) w⟩
theorem agR{N:H}(iz:CR (m+1) fE N Inv)(oo:∀i j σ,Inv (i+j) σ->Inv i σ){j:H}{s:O}{ps:I O}(hi:Inv (j+(ps.map cost).sum) σ)(ao:∀p∈ps,Ib (m+1) fE Inv cost ans s p):
  ∃af,az PP (m+2) 55 [.obj fE,.int s,.ab (ps.map .int)] σ=D (.bool (ps.any ans),af)/\Inv j af:=by
 obtain⟨af,mM,BF,dQ,w⟩:=Pj (m:=m) (live:=eQ σ (.ab (ps.map .int))) (fun _=>rfl) iz oo (s:=s) (pv:= .ab (ps.map .int)) ps j σ aa aa hi ao
 refine⟨af, ?_,dQ⟩
 have go:=(run (m+1) 55 [.obj fE,.int s,.ab (ps.map .int)] σ rfl).1
 cases q:ps.any ans with
 |true=>rw[q]at w;exact go w
 |false=>rw[q]at w;exact go w rfl
end
section
variable {m:H}{σ af:St}{T:ak}{A:bw}{R:be}{s t:H}{ps:I O}
theorem aib(h:TabAt σ T)(bu:gF σ)(cI:cq σ A R)(ao:gY T t ps)(ew:(s:O)∈ps):az PP (m+2) 57 [.obj A.inst,.int s,.int t] σ=D (.bool ae,σ):=run (m+1) 57 [.obj A.inst,.int s,.int t] σ cI.inst bu (vp (m:=m) h ao) (jy ps ew)
theorem aic(h:TabAt σ T)(bu:gF σ)(cI:cq σ A R)(ao:gY T t ps)(xk:az PP (m+1) 55 [.obj A.inst,.int s,.ab (ps.map .int)] σ=D (.bool ae,af))(ew:(s:O)∉ps):az PP (m+2) 57 [.obj A.inst,.int s,.int t] σ=D (.bool ae,af):=run (m+1) 57 [.obj A.inst,.int s,.int t] σ cI.inst bu (vp (m:=m) h ao) (je ps ew) xk
theorem aid{aB:ak}{k:O}{rest:I V}{ans:au}{o6:St}(h:TabAt σ T)(bu:gF σ)(cI:cq σ A R)(ao:gY T t ps)(xk:az PP (m+1) 55 [.obj A.inst,.int s,.ab (ps.map .int)] σ=D (.bool aw,af))(ew:(s:O)∉ps)
  (aD:TabAt af aB) (aY:aB.rows[s]?=D (.ab (.int k::rest))) (hz:s < a4) (hd:hf k) (ax:az PP (m+1) 37 [.obj A.inst,.int 2,.int s,.int t] af=D (.bool ans,o6)):az PP (m+2) 57 [.obj A.inst,.int s,.int t] σ=D (.bool ans,o6):=run (m+1) 57 [.obj A.inst,.int s,.int t] σ cI.inst bu (vp (m:=m) h ao) (je ps ew) xk aD.bT (aD.row aY hz) cz (jy [10,14,15,16,17,18,19] (zO.mpr hd)) ax
theorem aie{aB:ak}{rest:I V}(h:TabAt σ T)(bu:gF σ)(cI:cq σ A R)(ao:gY T t ps)(xk:az PP (m+1) 55 [.obj A.inst,.int s,.ab (ps.map .int)] σ=D (.bool aw,af))(ew:(s:O)∉ps)
  (aD:TabAt af aB) (aY:aB.rows[s]?=D (.ab (.int 3::rest))) (hz:s < a4):az PP (m+2) 57 [.obj A.inst,.int s,.int t] σ=D (.bool aw,af):=run (m+1) 57 [.obj A.inst,.int s,.int t] σ cI.inst bu (vp (m:=m) h ao) (je ps ew) xk aD.bT (aD.row aY hz) cz (je [10,14,15,16,17,18,19] (by decide)) (bf (by decide)) (bf (by decide)) (je [8,9] (by decide)) (bf (by decide))
theorem ahy{b:O}{cM f5:I V}{ans:au}(h:TabAt σ T)(bu:gF σ)(cI:cq σ A R)(aI:T.rows[s]?=D (.ab (.int 6::cM)))(ax:T.rows[t]?=D (.ab (.int b::f5)))(aY:s < a4)(aP:t < a4)
  (ao:az PP (m+1) 54 [.obj A.inst,.int s,.int t] σ=D (.bool ans,af)):az PP (m+2) 52 [.obj A.inst,.int s,.int t] σ=D (.bool ans,af):=run (m+1) 52 [.obj A.inst,.int s,.int t] σ cI.inst bu h.bT (h.row aI aY) cz (h.row ax aP) cz (eqT rfl) ao
theorem PC{a:O}{cM f5:I V}{ans:au}(h:TabAt σ T)(bu:gF σ)(cI:cq σ A R)(aI:T.rows[s]?=D (.ab (.int a::cM)))(ax:T.rows[t]?=D (.ab (.int 6::f5)))(aY:s < a4)(aP:t < a4)(c7:a≠6)
  (ao:az PP (m+1) 57 [.obj A.inst,.int s,.int t] σ=D (.bool ans,af)):az PP (m+2) 52 [.obj A.inst,.int s,.int t] σ=D (.bool ans,af):=run (m+1) 52 [.obj A.inst,.int s,.int t] σ cI.inst bu h.bT (h.row aI aY) cz (h.row ax aP) cz (bf c7) (eqT rfl) ao
end
section
variable {m:H}{σ:St}{a b:aK}
theorem ags(h:a=b):dF σ .eq (.str a) (.str b)=D ae:=bs D (cW h)
theorem O6(h:a≠b):dF σ .eq (.str a) (.str b)=D aw:=bs D (ek h)
theorem BI(h:a≠b):dF σ .ne (.str a) (.str b)=D ae:=bs (fun b=>D (!b)) (ek h)
theorem Pg(h:a=b):dF σ .ne (.str a) (.str b)=D aw:=bs (fun b=>D (!b)) (cW h)
theorem DE{P:c4}{C:Cl}{J:Loc}{i:H}{c d x:aK}(h:c2 J i=D (.str x))(ag:yf c x=ae)(ah:yf x d=ae):aG P C (.jo .le .le (.lit (.str c)) (.aq i) (.lit (.str d))) J σ=D (.bool ae,σ):=av rfl (av (av h rfl) (av (bs D ag) (av rfl (av (bs D ah) rfl))))
theorem Wm{P:c4}{C:Cl}{J:Loc}{i:H}{c d x:aK}(h:c2 J i=D (.str x))(ag:yf c x=ae)(ah:yf x d=aw):aG P C (.jo .le .le (.lit (.str c)) (.aq i) (.lit (.str d))) J σ=D (.bool aw,σ):=av rfl (av (av h rfl) (av (bs D ag) (av rfl (av (bs D ah) rfl))))
theorem FL:([]:I V).length < a4:=by decide
theorem acH{v:V}:[v].length < a4:=(by decide:1 < a4)
theorem WT:az PP (m+1) 28 [.str ⟨#[48]⟩] σ=D (.bool ae,σ++ [.list [.bool ae]]):=by
 have h:=(run m 28 [.str ⟨#[48]⟩] σ (show dd σ (.str ⟨#[48]⟩)=D [.str ⟨#[48]⟩]from rfl)).2 rfl (DE rfl (by decide) (by decide)) fP FL rfl
 rw[p2]at h
 exact h (k4 fP) rfl (ags rfl)
theorem WV:az PP (m+1) 28 [.str ⟨#[112]⟩] σ=D (.bool aw,σ++ [.list [.bool aw]]):=by
 have h:=(run m 28 [.str ⟨#[112]⟩] σ (show dd σ (.str ⟨#[112]⟩)=D [.str ⟨#[112]⟩]from rfl)).2 rfl (Wm rfl (by decide) (by decide)) fP FL rfl
 rw[p2]at h
 exact h (k4 fP) rfl (O6 (by decide)) (BI (by decide)) rfl (BI (by decide))
theorem WU:az PP (m+1) 28 [.str ⟨#[48,49]⟩] σ=D (.bool aw,σ++ [.list [.bool ae,.bool ae]]):=by
 have h:=(run m 28 [.str ⟨#[48,49]⟩] σ (show dd σ (.str ⟨#[48,49]⟩)=D [.str ⟨#[48]⟩,.str ⟨#[49]⟩]from rfl)).2 rfl (DE rfl (by decide) (by decide)) fP FL
 rw[p2]at h
 have h:=h rfl (DE rfl (by decide) (by decide)) fP acH rfl
 rw[p2]at h
 exact h (k4 fP) rfl (O6 (by decide)) (BI (by decide)) rfl (Pg rfl)
end
section
variable {m:H}{σ:St}{T:ak}
theorem OA:∃rest,ii (.int 40)=D (.int 0:: .int 1::rest):=⟨((gl 40).drop 2).map fun(i:H)=> .int i,rfl⟩
theorem xL{t:H}:¬(t:O) < 0:=Ci.mpr (kd t)
theorem agD{t:H}{rest:I V}(h:TabAt σ T)(bg:T.rows[t]?=D (.ab (.int 8::rest)))(aP:t < a4):az PP (m+1) 23 [.obj 2,.int t] σ=D (.int t,σ):=by
 obtain⟨bO,he⟩:=OA
 exact(run m 23 [.obj 2,.int t] σ he).2 rfl (lL xL) h.bT (h.row bg aP) cz (eqT rfl)
theorem agE{t d h5 dy b:H}{rest:I V}(h:TabAt σ T)(Z5:h5=d+1)(bg:T.rows[t]?=D (.ab [.int 9,.int h5,.ab []]))(aP:t < a4)(hd:T.decls[d]?=D (dy,(b:O)))(on:h5 < a4)(ax:T.rows[b]?=D (.ab (.int 8::rest)))(ZW:b < a4):az PP (m+1) 23 [.obj 2,.int t] σ=D (.int b,σ):=by
 obtain⟨bO,he⟩:=OA
 obtain⟨n,id,nm,f1,f2⟩:=h.dec d dy b hd
 have LR:ee σ (.obj 5) (.int (h5:O))=D (.obj dy):=by rw[rE h.km on,Z5,Q6,rR,hd];rfl
 exact(run m 23 [.obj 2,.int t] σ he).2 rfl (lL xL) h.bT (h.row bg aP) cz (bf (by decide)) cz (bf (by decide)) cz (je [1,2,3,4,5] (by decide)) cz (k7 rfl) lh rfl h.bT hD LR f1 rfl h.bT hD LR f1
  rfl (lL xL) h.bT (h.row ax ZW) cz (eqT rfl)
end
section
variable {m c:H}{σ:St}{C:Cl}{J:Loc}{fs:I (H×V)}{g:I Cell}
theorem fb{a:H}{e:E}{v:V}{g':I Cell}{g6:I S}{r:Rs}(h0:c2 J 0=D (.obj σ.length))(he:aG PP C e J (σ++ .inst c fs::g)=D (v,σ++ .inst c fs::g'))(bH:(PP.fld c a && decide (fs.length < 100))=ae)
  (bg:cQ PP C g6 J (σ++ .inst c (jU fs a v)::g')=r):cQ PP C (.cT (.aq 0) a e::g6) J (σ++ .inst c fs::g)=r:=de (show gI PP C (.cT (.aq 0) a e) J (σ++ .inst c fs::g)=D (.next,J,σ++ .inst c (jU fs a v)::g')from av he (av (show aG PP C (.aq 0) J (σ++ .inst c fs::g')=D (.obj σ.length,σ++ .inst c fs::g')from av h0 rfl) (by
  dsimp only
  rw[lq (dm _),o2]
  dsimp only[List.getElem?_cons_zero]
  rw[a7 bH,v6 _ _ (dm _),o2]
  rfl))) bg
theorem xn:aG PP C (.hC []) J (σ++ .inst c fs::g)=D (.obj (σ.length+(g.length+1)),σ++ .inst c fs::(g++ [.list []])):=by
 show D (V.obj _,_)=_
 rw[fw,hR];rfl
theorem E6{k:gp}:aG PP C (.iD k) J (σ++ .inst c fs::g)=D (.obj (σ.length+(g.length+1)),σ++ .inst c fs::(g++ [.dict k []])):=by
 show D (V.obj _,_)=_
 rw[fw,hR];rfl
theorem WK{h5:O}{name:V}:az PP (m+1) 4 [.obj σ.length,.int h5,.int 2,name] (σ++ [.inst 2 []])=D (.none,σ++ [.inst 2 (wQ σ.length h5 name (-1)),.list [],.list []]):=k0 (F:=f4) (J:=[D (.obj σ.length),D (.int h5),D (.int 2),D name]) (bt:=[D (.obj σ.length),D (.int h5),D (.int 2),D name]) (fl:= .next) rfl rfl
  (fb rfl rfl (by kernel_rfl) (fb rfl rfl (by kernel_rfl) (fb rfl rfl (by kernel_rfl) (fb rfl rfl (by kernel_rfl) (fb rfl rfl (by kernel_rfl) (fb rfl rfl (by kernel_rfl) (fb rfl rfl (by kernel_rfl) (fb rfl rfl (by kernel_rfl) (fb rfl rfl (by kernel_rfl) (fb rfl xn (by kernel_rfl) (fb rfl xn (by kernel_rfl) (fb rfl rfl (by kernel_rfl) (fb rfl rfl (by kernel_rfl) (fb rfl rfl (by kernel_rfl) (fb rfl rfl (by kernel_rfl) (by kernel_rfl)))))))))))))))) rfl
end
section
variable {m:H}{σ:St}{T:ak}
noncomputable def uq(σ:St)(T:ak)(name:V):St:=(σ++ [Cell.inst 2 (wQ σ.length ((T.decls.length+1:H):O) name (-1)),Cell.list [],Cell.list []]).set 5 (Cell.list (V.none::T.decls.map (fun p=>V.obj p.1)++ [V.obj σ.length]))
theorem ac0{name:V}(h:TabAt σ T)(hz:T.decls.length+1 < a4):az PP (m+2) 7 [.obj 2,.int 2,name] σ=D (.obj σ.length,uq σ T name):=by
 have jd:(V.none::T.decls.map fun p=>V.obj p.1).length=T.decls.length+1:=bs (· +1) (d5 _)
 exact run (m+1) 7 [.obj 2,.int 2,name] σ h.bT (sR h.km jd (kf hz)) (WK (m:=m) (σ:=σ)) (e4 h.bT) (e4 h.km) (e4 h.km) (by rw[jd];exact hz)
end
section
variable {m:H}{σ:St}{T:ak}
noncomputable def ak.decl(T:ak)(k:H)(b:O):ak:= {T with decls:=T.decls++ [(k,b)]}
noncomputable def sj(σ:St)(T:ak)(b:O):St:=(uq σ T (.str ⟨#[73]⟩)).set σ.length (.inst 2 (wQ σ.length ((T.decls.length+1:H):O) (.str ⟨#[73]⟩) b))
theorem J8{name:V}(qZ:20 < σ.length):(uq σ T name)[σ.length]?=D (.inst 2 (wQ σ.length ((T.decls.length+1:H):O) name (-1))):=by
 unfold uq
 rw[nW (by omega),lq (dm _),o2];rfl
theorem TabAt.declared{b:O}(h:TabAt σ T)(qZ:20 < σ.length):TabAt (sj σ T b) (T.decl σ.length b)/\bx [5] σ (sj σ T b):=by
 have gQ:5≠σ.length:=hI (iC h.km)
 have s:bx [5] σ (sj σ T b):=⟨by unfold sj uq;rw[tR,tR,fw];exact cn ..,fun i hi aZ=>by
   unfold sj uq
   rw[nW (rW hi),nW (fun q=>aZ (dt.mpr q.symm)),jJ hi]⟩
 refine⟨⟨s.get h.bT (by decide),s.get h.hv (by decide),s.get h.i9 (by decide), ?_,s.get h.h2 (by decide),s.get h.qK (by decide),s.get h.ml (by decide),fun j k fz e=> ?_,h.pure,h.nodup⟩,s⟩
 ·refine(c6 (h9 (e4 h.km)) gQ.symm).trans ?_
  unfold ak.decl;rw[oZ];rfl
 ·rcases qi j T.decls.length with l|l
  ·obtain⟨n,h5,nm,a6,bl⟩:=h.dec j k fz ((jJ l).symm.trans e)
   exact⟨n,h5,nm,s.get a6 (ac6 (rW (fN (by decide) bl))),bl⟩
  ·have e:=(lq l).symm.trans e
   obtain⟨q,e⟩:=fj.mp e
   rw[ajZ]at e
   cases e
   exact⟨_,_,_,h9 (J8 qZ),qZ⟩
noncomputable def oJ(T:ak):V:= .ab [.int 9,.int ((T.decls.length+1:H):O),.ab []]
theorem WL{b:O}(h:TabAt σ T)(qZ:20 < σ.length)(hz:T.decls.length+1 < a4)(bg:T.rows.length < a4):
  az PP (m+3) 77 [.obj 2,.int b] σ=D (.int ((T.decl σ.length b).pos (oJ T):H),gi (T.decl σ.length b) (oJ T) (sj σ T b)):=by
 have aD:=(h.declared (b:=b) qZ).1
 have ww:=J8 (T:=T) (name:= .str ⟨#[73]⟩) qZ
 exact run (m+2) 77 [.obj 2,.int b] σ (ac0 (m:=m) h hz) ww rfl aD.bT (h9 ww) (rv (m:=m+1) aD (row:=oJ T) rfl rfl bg)
end
noncomputable def Mg(l:I V)(i:H):au:=(l[i]?.bind V.int?).isSome
theorem abg{l:I V}{i:H}(h:Mg l i=ae):∃c,l[i]?=D (.int c):=
 let⟨c,e⟩:=HN.mp h;let⟨_,e,q⟩:=tU.mp e;⟨c,V.kx q▸e⟩
noncomputable def Jq:I V:=match PP.aV 81 with|some (V.ab l)=>l|_=> []
theorem VC:(gl 29).all (Mg Jq)=ae:=by decide
theorem VB{σ:St}(n:H):∃c:O,ee σ (.ab Jq) (.int ((n:O) % 29))=D (.int c):=by
 have h:=ke.mp VC (n % 29) (qe.mpr (Rk _ (by decide)))
 obtain⟨c,aE⟩:=abg h
 refine⟨c, ?_⟩
 have dV:a4=1000000:=rfl
 rw[show((n:O) % 29)=((n % 29:H):O)from rfl]
 rw[Xw]
 unfold q9
 rw[a7 (by omega),a7 (kd _),Cj]
 exact aE
structure wi(σ:St)(at_:H)(xs:I O):Prop where
 eT:σ[0]?=D (.list (xs.map .int))
 eL:σ[1]?=D (.list [.int at_,.obj 0])
theorem PN{m at_:H}{σ:St}{xs:I O}{n:O}(h:wi σ at_ xs)(aA:xs.length<=54)(aI:at_ < a4)(aZ:0 < n):
  ∃x:O,0<=x/\x < n/\az PP (m+1) 75 [.obj 1,.int n] σ=D (.int x,σ.set 1 (.list [.int (at_+1:H),.obj 0])):=by
 have JG:=c6 (k:=1) (d:= .list [.int (at_+1:H),.obj 0]) h.eT (by decide)
 have s1:=rE (i:=1) (h9 (d:= .list [.int (at_+1:H),.obj 0]) h.eL) (by decide)
 have go:=run m 75 [.obj 1,.int n] σ (rE (i:=0) h.eL (by decide)) rfl|>.2 h.eL ⟨n4 0,(by decide:(0:O) < 2),(by decide:2<=a4)⟩ s1 (sR JG (d5 _) (cp aA (by decide)))
 have fin:∀x:O,0<=x % n/\x % n < n:=fun x=>⟨Int.emod_nonneg _ (QV aZ),Int.emod_lt_of_pos _ aZ⟩
 by_cases q:at_ < xs.length
 ·exact⟨xs[at_] % n,(fin _).1,(fin _).2,go (sV (fv.mpr q)) s1 ((rE (i:=at_) JG aI).trans (by rw[rR,hG q];rfl)) (A5 aZ)⟩
 ·obtain⟨c,aE⟩:=VB (σ:=σ.set 1 (.list [.int (at_+1:H),.obj 0])) at_
  exact⟨c % n,(fin _).1,(fin _).2,go (lL fun r=>q (fv.mp r)) (A5 (by decide)) aE (A5 aZ)⟩
noncomputable def kdOf(v:V):aJ O:=v.p9.bind fun l=>l.head?.bind V.int?
noncomputable def aW(T:ak)(t:H):aJ O:=(T.rows[t]?).bind kdOf
noncomputable def ta:I V->aJ (I H)
 |[]=>D []
 |.int i::r=>if 0<=i/\i < a4 then(ta r).bind fun l=>D (i.toNat::l)else aa
 |_=>aa
noncomputable def DT:I V->aJ (V×V)
 |[]=>aa
 |a::r=>r.head?.bind fun b=>if r.tail.isEmpty then D (a,b)else aa
noncomputable def abM(v:V):aJ (I V):=v.p9.bind fun l=>(DT l).bind fun p=>p.1.int?.bind fun k=>if k=6 then p.2.p9 else aa
noncomputable def Oj(v:V):aJ O:=v.p9.bind fun l=>(DT l).bind fun p=>p.1.int?.bind fun k=>p.2.int?.bind fun q=>if k=10/\0<=q/\q < a4 then D q else aa
noncomputable def iA(T:ak)(t:H):aJ (I H):=(T.rows[t]?).bind fun r=>(abM r).bind ta
noncomputable def nI(T:ak)(t:H):aJ O:=(T.rows[t]?).bind fun r=>(Oj r).bind fun p=>T.bounds[p.toNat]?
noncomputable def P2(M:O)(s t:H)(a b:O):aJ O:=if 0<=j8 M s t a then D (j8 M s t a)else if(openK a||openK b)=ae then D (-1)else if a=3/\b=3 then D 0 else aa
noncomputable def aif(M:O)(s t:H)(a b:O):aJ O:=if s=0\/s=1 then aa else P2 M s t a b
noncomputable def lY(T:ak)(M:O)(s t:H):aJ O:=(aW T s).bind fun a=>(aW T t).bind (aif M s t a)
noncomputable def rm{α dg:Type}(f:α->aJ dg):I α->aJ (I dg)
 |[]=>D []
 |a::as=>(f a).bind fun b=>(rm f as).bind fun av=>D (b::av)
noncomputable abbrev gz:=H->H->aJ (au×H)
noncomputable def lV(K:I (V×V))(s t:H):aJ (au×H):=match cx K (cB s t)with|some (.bool b)=>D (b,0)|_=>aa
noncomputable def gT(l:I (au×H)):H:=(l.map (·.2)).sum
noncomputable def OQ(r:gz)(s t:H)(x:H)(b:O):aJ (au×H):=if(kY b).toNat < a4/\0<=kY b/\kY b≠s then(r (kY b).toNat t).bind fun p=>D (p.1,p.2+1+x)else aa
noncomputable def nL(T:ak)(r:gz)(s t:H)(a:O)(x:H):aJ (au×H):=if a=10 then(nI T s).bind (OQ r s t x)else D (aw,1+x)
noncomputable def GY(M:O)(l:I (au×H)):aJ (au×H):=D (if M=2 then l.any (·.1)else l.all (·.1),gT l+1)
noncomputable def Py(T:ak)(M:O)(r:gz)(s t:H):aJ (au×H):=(iA T s).bind fun ps=>(rm (fun p=>r p t) ps).bind (GY M)
noncomputable def PA(T:ak)(r:gz)(s t:H)(a:O)(l:I (au×H)):aJ (au×H):=if l.any (·.1)=ae then D (ae,gT l+1)else if hf a then nL T r s t a (gT l)else if a=3 then D (aw,gT l+1)else aa
noncomputable def ahr(T:ak)(K:I (V×V))(r:gz)(s t:H)(a:O)(ps:I H):aJ (au×H):=if s∈ps then D (ae,1)else if a=15 then lV K s t else(rm (fun p=>r s p) ps).bind (PA T r s t a)
noncomputable def Pz(T:ak)(K:I (V×V))(r:gz)(s t:H)(a:O):aJ (au×H):=(iA T t).bind (ahr T K r s t a)
noncomputable def ahq(T:ak)(K:I (V×V))(r:gz)(s t:H)(a b:O):aJ (au×H):=if hf b then nL T r s t a 0 else if hf a then(if a=15 then lV K s t else nL T r s t a 0)else aa
noncomputable def tE(T:ak)(M:O)(K:I (V×V))(r:gz)(s t:H)(a b:O):aJ (au×H):=if a=6 then Py T M r s t else if b=6 then Pz T K r s t a else ahq T K r s t a b
noncomputable def gG(k:O):au:=decide (k=2)||(decide (k=8)||decide (k=7))
noncomputable def Ps(T:ak)(M:O)(K:I (V×V))(r:gz)(s t:H)(a b v w:O):aJ (au×H):=if w=1 then aa else if v=0 then D (aw,0)else tE T M K r s t a b
noncomputable def ahm(T:ak)(M:O)(K:I (V×V))(r:gz)(s t:H)(a b v:O):aJ (au×H):=if v=1 then D (ae,0)else(if M=2/\t≠2 then lY T M t s else D 0).bind (Ps T M K r s t a b v)
noncomputable def ahl(T:ak)(M:O)(K:I (V×V))(r:gz)(s t:H)(a b:O):aJ (au×H):=if(gG a||gG b)=ae then aa else(lY T M s t).bind (ahm T M K r s t a b)
noncomputable def tC(T:ak)(M:O)(K:I (V×V))(r:gz):gz:=fun s t=>if s=t then D (ae,0)else(aW T s).bind fun a=>(aW T t).bind (ahl T M K r s t a)
noncomputable def cy(T:ak)(M:O)(K:I (V×V)):H->gz
 |0=>fun _ _=>aa
 |n+1=>tC T M K (cy T M K n)
noncomputable def gW(K mY:I (V×V)):Prop:=∀k v,cx K k=D v->cx mY k=D v
theorem gW.refl(K:I (V×V)):gW K K:=fun _ _ h=>h
theorem gW.trans{a b c:I (V×V)}(h:gW a b)(g:gW b c):gW a c:=fun k v q=>g k v (h k v q)
noncomputable def CK(r f3:gz):Prop:=∀s t p,r s t=D p->f3 s t=D p
theorem hZ{α dg:Type}{o:aJ α}{f:α->aJ dg}{b:dg}(e:o.bind f=D b):∃a,o=D a/\f a=D b:=tU.mp e
theorem i8{α dg:Type}{x i3:aJ α}{f nf:α->aJ dg}{b:dg}(e:x.bind f=D b)(ag:∀a,x=D a->i3=D a)(ah:∀a,f a=D b->nf a=D b):i3.bind nf=D b:=
 let⟨a,q,r⟩:=hZ e;av (ag a q) (ah a r)
theorem jv{α:Type}{c:Prop}[oV c]{x i3 y yu:aJ α}{p:α}(e:(if c then x else y)=D p)(ag:x=D p->i3=D p)(ah:y=D p->yu=D p):(if c then i3 else yu)=D p:=by
 by_cases h:c
 ·rw[a7 h]at e ⊢;exact ag e
 ·rw[bz h]at e ⊢;exact ah e
theorem Ml{α:Type}{c:Prop}[oV c]{x y:aJ α}{p:α}(e:(if c then x else y)=D p):(c/\x=D p)\/(¬c/\y=D p):=by
 by_cases h:c
 ·rw[a7 h]at e;exact .inl ⟨h,e⟩
 ·rw[bz h]at e;exact .inr ⟨h,e⟩
theorem uY{T aB:ak}(h:T.bJ aB){t:H}{k:O}(e:aW T t=D k):aW aB t=D k:=i8 e (fun _ q=>h.row q) fun _ e=>e
theorem Fi{T aB:ak}(h:T.bJ aB){t:H}{k:I H}(e:iA T t=D k):iA aB t=D k:=i8 e (fun _ q=>h.row q) fun _ e=>e
theorem Bo{T aB:ak}(h:T.bJ aB){t:H}{k:O}(e:nI T t=D k):nI aB t=D k:=i8 e (fun _ q=>h.row q) fun _ e=>i8 e (fun _ e=>e) fun _ e=>h.bound e
theorem LA{l:I V}{a:V}(h:l.head?=D a):l=a::l.tail:=by
 cases l with
 |nil=>exact nomatch (show aa=D a from h)
 |cons b r=>exact bD (show D b=D a from h)▸rfl
theorem Ms{v:V}{k:O}(h:kdOf v=D k):∃rest,v= .ab (.int k::rest):=
 let⟨l,e,h⟩:=hZ h;let⟨a,q,h⟩:=hZ h;⟨l.tail,(V.rI e).trans (bs V.ab ((LA q).trans (bs (· ::l.tail) (V.kx h))))⟩
theorem Km{l:I V}{p:V×V}(h:DT l=D p):l=[p.1,p.2]:=by
 cases l with
 |nil=>exact nomatch (show aa=D p from h)
 |cons a r=>
  obtain⟨b,e,h⟩:=hZ (show(r.head?.bind fun b=>if r.tail.isEmpty then D (a,b)else aa)=D p from h)
  obtain⟨t,h⟩:=nq h
  cases h
  rw[LA e,Co.mp t]
theorem iY{T:ak}{t:H}{k:O}(h:aW T t=D k):∃rest,T.rows[t]?=D (.ab (.int k::rest)):=
 let⟨r,e,q⟩:=hZ h;let⟨rest,z⟩:=Ms q;⟨rest,z▸e⟩
theorem gg{T:ak}{t:H}{k:O}{rest:I V}(h:T.rows[t]?=D (.ab (.int k::rest))):aW T t=D k:=av h rfl
theorem Fh{T:ak}{t:H}{ps:I H}(h:iA T t=D ps):∃l,T.rows[t]?=D (.ab [.int 6,.ab l])/\ta l=D ps:=by
 obtain⟨r,e,q⟩:=hZ h
 obtain⟨l,q,z⟩:=hZ q
 obtain⟨hl,a0,q⟩:=hZ q
 obtain⟨p,a1,q⟩:=hZ q
 obtain⟨k,c1,q⟩:=hZ q
 obtain⟨rfl,gx⟩:=nq q
 exact⟨l,(by rw[e,V.rI a0,Km a1,V.kx c1,V.rI gx]),z⟩
theorem abO{T:ak}{t:H}{l:I V}{ps:I H}(h:T.rows[t]?=D (.ab [.int 6,.ab l]))(q:ta l=D ps):iA T t=D ps:=av h (av rfl q)
theorem Gj{T:ak}{s:H}{b:O}(h:nI T s=D b):∃p:H,T.rows[s]?=D (.ab [.int 10,.int p])/\T.bounds[p]?=D b/\p < a4:=by
 obtain⟨r,e,q⟩:=hZ h
 obtain⟨p,q,z⟩:=hZ q
 obtain⟨hl,a0,q⟩:=hZ q
 obtain⟨d,a1,q⟩:=hZ q
 obtain⟨k,c1,q⟩:=hZ q
 obtain⟨i,e0,q⟩:=hZ q
 obtain⟨⟨rfl,h0,ag⟩,gx⟩:=nq q
 cases gx
 obtain⟨n,rfl⟩:=QT h0
 exact⟨n,(by rw[e,V.rI a0,Km a1,V.kx c1,V.kx e0]),z,fv.mp ag⟩
theorem Oh{T:ak}{s p:H}{b:O}(h:T.rows[s]?=D (.ab [.int 10,.int p]))(ax:T.bounds[p]?=D b)(ao:p < a4):nI T s=D b:=
 have ah:Oj (.ab [.int 10,.int p])=D (p:O):=av rfl (av rfl (av rfl (av rfl (a7 ⟨rfl,kd p,fv.mpr ao⟩))))
 av h (av ah ax)
theorem i7{α dg:Type}{o:aJ α}{f:α->aJ dg}{b:dg}{G:Prop}(e:o.bind f=D b)(h:∀a,o=D a->f a=D b->G):G:=let⟨a,q,r⟩:=hZ e;h a q r
theorem hj{α:Type}{c:Prop}[oV c]{x y:aJ α}{p:α}{G:Prop}(e:(if c then x else y)=D p)(ag:c->x=D p->G)(ah:¬c->y=D p->G):G:=(Ml e).elim (fun q=>ag q.1 q.2) (fun q=>ah q.1 q.2)
theorem AF{α:Type}{c:Prop}[oV c]{y:aJ α}{p:α}{G:Prop}(e:(if c then aa else y)=D p)(ah:¬c->y=D p->G):G:=hj e (fun _ q=>nomatch q) ah
theorem P4{T aB:ak}(h:T.bJ aB){M:O}{s t:H}{v:O}(e:lY T M s t=D v):lY aB M s t=D v:=i8 e (fun _ q=>uY h q) fun _ e=>i8 e (fun _ q=>uY h q) fun _ e=>e
theorem FI{α dg:Type}{f g:α->aJ dg}(h:∀a b,f a=D b->g a=D b):∀ {l:I α} {m:I dg},rm f l=D m->rm g l=D m
 |[],m,e=>e
 |a::l,m,e=>i8 e (fun b q=>h a b q) fun b e=>i8 e (fun av q=>FI h q) fun _ e=>e
theorem O3{K mY:I (V×V)}(h:gW K mY){s t:H}{p:au×H}(e:lV K s t=D p):lV mY s t=D p:=by
 unfold lV at e ⊢
 split at e
 ·rename_i b q;rw[h _ _ q];exact e
 ·cases e
section
variable {T aB:ak}(h:T.bJ aB){K mY:I (V×V)}(iz:gW K mY){M:O}{r f3:gz}(bg:CK r f3){s t:H}{a b:O}{x:H}{p:au×H}
include h bg
theorem GC(e:nL T r s t a x=D p):nL aB f3 s t a x=D p:=jv e (fun e=>i8 e (fun _ q=>Bo h q) fun b e=>jv e (fun e=>i8 e (fun _ q=>bg _ _ _ q) fun _ e=>e) id) id
include iz
theorem ahv(e:tE T M K r s t a b=D p):tE aB M mY f3 s t a b=D p:=jv e (fun e=>i8 e (fun _ q=>Fi h q) fun ps e=>i8 e (fun _ q=>FI (fun a b q=>bg _ _ _ q) q) fun _ e=>e) fun e=>jv e (fun e=>i8 e (fun _ q=>Fi h q) fun ps e=>jv e id fun e=>jv e (O3 iz) fun e=>i8 e (fun _ q=>FI (fun a b q=>bg _ _ _ q) q) fun l e=>jv e id fun e=>jv e (GC h bg) id) fun e=>jv e (GC h bg) fun e=>jv e (fun e=>jv e (O3 iz) (GC h bg)) id
theorem ahn:CK (tC T M K r) (tC aB M mY f3):=fun s t p e=>jv e id fun e=>i8 e (fun _ q=>uY h q) fun a e=>i8 e (fun _ q=>uY h q) fun b e=>jv e id fun e=>i8 e (fun _ q=>P4 h q) fun v e=>jv e id fun e=>i8 e (fun w q=>jv q (P4 h) id) fun w e=>jv e id fun e=>jv e id (ahv h iz bg)
end
theorem zj{T aB:ak}(h:T.bJ aB){K mY:I (V×V)}(iz:gW K mY){M:O}:∀ {n fe:H},n<=fe->CK (cy T M K n) (cy aB M mY fe)
 |0,_,_=>fun _ _ _ e=>by cases e
 |n+1,fe+1,aZ=>ahn h iz (zj h iz (akk aZ))
theorem qD{T:ak}{K:I (V×V)}{M:O}{n fe:H}(h:n<=fe){s t:H}{p:au×H}(e:cy T M K n s t=D p):cy T M K fe s t=D p:=zj (ak.bJ.refl T) (gW.refl K) h s t p e
theorem C5{T:ak}{K:I (V×V)}{M:O}{n fe:H}{s t:H}{p fF:au×H}(e:cy T M K n s t=D p)(cH:cy T M K fe s t=D fF):p=fF:=by
 have a:=qD (Nat.le_max_left n fe) e
 have b:=qD (Nat.le_max_right n fe) cH
 rw[a]at b;exact bD b
noncomputable def h6:I V:=match PP.aV 0 with|some (V.ab l)=>l|_=> []
structure cP(T:ak):Prop where
 first:∀i,i < 16->T.rows[i]?=h6[i]?
 good:∀(t:H) (k:O) (rest:I V),T.rows[t]?=D (.ab (.int k::rest))->k≠2->k≠8->unmarked (.ab (.int k::rest))
 texts:∀(t:H) (rest:I V),T.rows[t]?=D (.ab (.int 3::rest))->∃x i,rest=[x,i]
 len:T.rows.length < 100000
 Bp:∀(x p:H),T.rows[x]?=D (.ab [.int 10,.int p])->p < T.bounds.length
 idxs:∀(x s p:H),T.rows[x]?=D (.ab [.int 15,.int s,.int p])->p < T.rows.length
theorem cP.lt{T:ak}(h:cP T){t:H}{r:V}(e:T.rows[t]?=D r):t < a4:=by
 have:=(fj.mp e).1
 have:=h.len
 unfold a4;omega
noncomputable def Lz(o:aJ V):aJ O:=o.bind kdOf
theorem Z6{o:aJ V}{k:O}(h:Lz o=D k):∃rest,o=D (.ab (.int k::rest)):=
 let⟨v,e,q⟩:=hZ h;let⟨rest,z⟩:=Ms q;⟨rest,z▸e⟩
noncomputable def Ig(i:H)(k:O):Prop:=(k=1\/k=2\/k=8\/k=6)/\(k=6↔i=12)/\(k=8↔i=11)/\(k=2↔i=8\/i=9\/i=14\/i=15)
theorem Y0:∀i:Fin 16,Lz h6[i.val]?=D ([1,1,1,1,1,1,1,1,2,2,1,8,6,1,2,2].getD i.val 0)/\Ig i.val ([1,1,1,1,1,1,1,1,2,2,1,8,6,1,2,2].getD i.val 0):=by unfold Ig;decide
theorem YZ(i:H)(h:i < 16):∃k rest,h6[i]?=D (.ab (.int k::rest))/\(k=1\/k=2\/k=8\/k=6)/\(k=6↔i=12)/\(k=8↔i=11)/\(k=2↔i=8\/i=9\/i=14\/i=15):=
 have ⟨ag,ah⟩:=Y0 ⟨i,h⟩
 have ⟨r,e⟩:=Z6 ag
 ⟨_,r,e,ah⟩
theorem cP.aW{T:ak}(h:cP T){i:H}(hi:i < 16):∃k rest,T.rows[i]?=D (.ab (.int k::rest))/\(k=1\/k=2\/k=8\/k=6)/\(k=6↔i=12)/\(k=8↔i=11)/\(k=2↔i=8\/i=9\/i=14\/i=15):=by
 obtain⟨k,r,e,q⟩:=YZ i hi
 exact⟨k,r,by rw[h.first i hi,e],q⟩
theorem cP.big{T:ak}(h:cP T){t:H}{k:O}{rest:I V}(e:T.rows[t]?=D (.ab (.int k::rest)))(am:¬(k=1\/k=2\/k=8\/k=6)):16<=t:=by
 rcases qi t 16 with l|l
 ·obtain⟨k',f3,cH,q,_⟩:=h.aW l
  rw[e]at cH;cases cH;exact absurd q am
 ·exact l
theorem nx:∀(l:I (V×V)) (k v k':V),cx (dI l k v) k'=if k=k' then D v else cx l k'
 |[],k,v,k'=>by simp[dI,cx]
 |(a,u)::r,k,v,k'=>by
  have bh:=nx r k v k'
  by_cases e:a=k
  ·subst e
   by_cases aX:a=k'
   ·simp[dI,cx,aX]
   ·simp[dI,cx,aX]
  ·simp only[dI,e,kR,cx]
   by_cases aX:a=k'
   ·subst aX;have:¬k=a:=fun q=>e q.symm
    simp[this]
   ·simp[aX,bh]
theorem xr{s t bc eF:O}(h:cB s t=cB bc eF):s=bc/\t=eF:=by
 unfold cB at h;simpa using h
noncomputable def pc(T:ak)(M:O)(S K:I (V×V)):Prop:=∀k v,cx K k=D v->∃(s t:H) (b:au) (n c:H),k=cB s t/\v= .bool b/\cy T M S n s t=D (b,c)
noncomputable def zb(T:ak)(M:O)(S:I (V×V))(n:H)(l:I V):Prop:=∀k∈l,∃s t:H,k=cB s t/\((∃fe c,cy T M S fe s t=D (ae,c))\/cy T M S n s t=aa)
theorem MD{T:ak}{M:O}{S K:I (V×V)}(h:pc T M S K){n s t:H}{b:au}{c:H}(e:cy T M S n s t=D (b,c)):pc T M S (dI K (cB s t) (.bool b))/\gW K (dI K (cB s t) (.bool b)):=by
 refine⟨fun k v q=> ?_,fun k v q=> ?_⟩
 ·rw[nx]at q
  split at q
  ·rename_i gB;cases q;exact⟨s,t,b,n,c,gB.symm,rfl,e⟩
  ·exact h k v q
 ·rw[nx]
  split
  ·rename_i gB
   obtain⟨bc,eF,fz,fe,fA,ag,ah,aN⟩:=h k v q
   rw[ag]at gB
   obtain⟨aT,aX⟩:=xr gB
   have DV:s=bc:=by omega
   have W7:t=eF:=by omega
   subst DV W7
   have:=C5 e aN
   cases this;rw[ah]
  ·exact q
theorem MC{T:ak}{M:O}{S:I (V×V)}:∀(l:I V) {K:I (V×V)},pc T M S K->(∀k∈l,∃s t n c:H,k=cB s t/\cy T M S n s t=D (ae,c))->pc T M S (pP K l)/\gW K (pP K l)/\(pP K l).length<=K.length+l.length
 |[],K,h,_=>⟨h,gW.refl _,by simp[pP]⟩
 |k::l,K,h,aj=>by
  obtain⟨s,t,n,c,rfl,e⟩:=aj k (.head _)
  obtain⟨a1,c1⟩:=MD h e
  obtain⟨d7,dM,pk⟩:=MC l a1 fun k q=>aj k (.tail _ q)
  have ky:=u2 K (cB s t) (.bool ae)
  refine⟨d7,c1.trans dM, ?_⟩
  have:pP K (cB s t::l)=pP (dI K (cB s t) (.bool ae)) l:=rfl
  rw[this];simp;omega
structure bw.Sn(A:bw):Prop where
 a:11 < A.inst
 b:11 < A.bY
 c:11 < A.bk
 d:11 < A.aO
 e:11 < A.ba
 g1:A.inst≠13
 g2:A.bY≠13
 g3:A.bk≠13
 uI:A.aO≠13
 En:A.ba≠13
 dG:A.inst≠20
 cZ:A.bY≠20
 fY:A.bk≠20
 pM:A.aO≠20
 abA:A.ba≠20
structure iO(T:ak)(M:O)(S:I (V×V))(n:H)(A:bw)(R:be)(σ:St):Prop where
 a8:cP T
 tab:TabAt σ T
 host:gF σ
 rules:ua σ
 rel:cq σ A R
 tidy:jO R
 mode:R.mode=M
 bk:pc T M S R.bk
 lW:gW S R.bk
 aO:zb T M S n R.aO
 da:R.ba.length < 100000
 size:((R.bk.length+R.aO.length:H):O)<=R.dn+S.length/\S.length<=100
 e8:A.Sn
noncomputable def IF(T:ak)(M:O)(S:I (V×V))(l:I V):Prop:=∀k∈l,∃s t n c:H,k=cB s t/\cy T M S n s t=D (ae,c)
structure kS(T:ak)(M:O)(S:I (V×V))(A:bw)(R:be)(σ:St)(A':bw)(R':be)(af:St):Prop where
 place:A'= {A with aO:=A'.aO}
 ll:A'.aO=A.aO\/σ.length<=A'.aO
 keep:R.aO≠ []->A'=A
 empty:R.aO=[]->R'.aO=[]
 aO:∃ex,R'.aO=R.aO++ex/\IF T M S ex
 same:bx [A.inst,A.bY,A.bk,A.aO,A.ba] σ af
 mode:R'.mode=R.mode
 deep:R'.deep=R.deep
 df:R'.df=R.df
 twin:R'.twin=R.twin
 at_:R'.at_=R.at_
 ba:R'.ba=R.ba
 dn:R.dn<=R'.dn
 size:((R'.bk.length+R'.aO.length:H):O)+R.dn<=((R.bk.length+R.aO.length:H):O)+R'.dn
 ext:gW R.bk R'.bk
theorem kS.refl{T:ak}{M:O}{S:I (V×V)}(A:bw)(R:be)(σ:St):kS T M S A R σ A R σ:=⟨rfl,.inl rfl,fun _=>rfl,id,⟨[],by simp,fun _ h=>by cases h⟩,bx.refl ..,rfl,rfl,rfl,rfl,rfl,rfl,n4 _,n4 _,gW.refl _⟩
theorem kS.trans{T:ak}{M:O}{S:I (V×V)}{A ma ht:bw}{R cv b2:be}{σ aC bn:St}(a:kS T M S A R σ ma cv aC)(b:kS T M S ma cv aC ht b2 bn):kS T M S A R σ ht b2 bn:=by
 obtain⟨ex,he,aP⟩:=a.aO
 obtain⟨Xy,EB,aaK⟩:=b.aO
 have hn:=a.place
 refine⟨?_, ?_,fun q=> ?_,fun q=>b.empty (a.empty q),⟨ex++Xy,by rw[EB,he];simp,fun k am=>(l4.mp am).elim (aP k) (aaK k)⟩,⟨cp a.same.1 b.same.1,fun i h n=> ?_⟩,b.mode.trans a.mode,b.deep.trans a.deep,b.df.trans a.df,b.twin.trans a.twin,b.at_.trans a.at_,b.ba.trans a.ba,v2 a.dn b.dn, ?_,a.ext.trans b.ext⟩
 ·rw[b.place,a.place]
 ·rcases b.ll with q|q
  ·rcases a.ll with r|r
   ·exact .inl (q.trans r)
   ·exact .inr (by rw[q];exact r)
  ·exact .inr (cp a.same.1 q)
 ·have aT:=a.keep q
  rw[<-aT];exact b.keep (by rw[he];simp[q])
 ·rw[b.same.2 i (gm h a.same.1) ?_,a.same.2 i h n]
  rw[hn]
  simp only[dj,nX,t5,qp]at n ⊢
  refine⟨n.1,n.2.1,n.2.2.1, ?_,n.2.2.2.2⟩
  rcases a.ll with r|r
  ·rw[r];exact n.2.2.2.1
  ·omega
 ·have:=a.size
  have:=b.size
  omega
theorem zb.less{T:ak}{M:O}{S:I (V×V)}{n fe:H}{l:I V}(h:zb T M S fe l)(aZ:n<=fe):zb T M S n l:=fun k am=>by
 obtain⟨s,t,e,q⟩:=h k am
 refine⟨s,t,e, ?_⟩
 rcases q with q|q
 ·exact .inl q
 ·right
  cases aX:cy T M S n s t with
  |none=>rfl
  |some p=>rw[qD aZ aX]at q;cases q
theorem TabAt.calm{S:I H}{σ af:St}{T:ak}(h:TabAt σ T)(a:bx S σ af)(kq:∀i∈S,8 < i/\∀fs,σ[i]?≠D (.inst 2 fs)):TabAt af T:=h.same a fun i hi=>by
  obtain⟨ag,ah⟩:=kq i hi
  rcases qi 20 i with l|l
  ·refine .inr (.inr ⟨l,fun j k b e q=> ?_⟩)
   subst q
   obtain⟨_,_,_,g,_⟩:=h.dec j k b e
   exact ah _ g
  ·exact .inr (.inl ⟨ag,l⟩)
theorem oF{σ:St}{i:H}{c:Cell}(h:σ[i]?=D c)(aE:∀fs,c≠ .inst 2 fs)(fs:I (H×V)):σ[i]?≠D (.inst 2 fs):=fun q=>aE fs (bD (h.symm.trans q))
theorem iO.places{T:ak}{M:O}{S:I (V×V)}{n:H}{A:bw}{R:be}{σ:St}(h:iO T M S n A R σ):∀i∈ [A.inst,A.bY,A.bk,A.aO,A.ba],11 < i/\i≠13/\i≠20/\∀fs,σ[i]?≠D (.inst 2 fs):=by
 have f:=h.e8
 refine cK.mpr ⟨⟨f.a,f.g1,f.dG,oF h.rel.inst nofun⟩,cK.mpr ⟨⟨f.b,f.g2,f.cZ,oF h.rel.bY nofun⟩,cK.mpr ⟨⟨f.c,f.g3,f.fY,oF h.rel.bk nofun⟩,cK.mpr ⟨⟨f.d,f.uI,f.pM,oF h.rel.aO nofun⟩,cK.mpr ⟨⟨f.e,f.En,f.abA,oF h.rel.ba nofun⟩,nofun⟩⟩⟩⟩⟩
theorem iO.rC{T:ak}{M:O}{S:I (V×V)}{n:H}{A:bw}{R:be}{σ af:St}(h:iO T M S n A R σ)(a:bx [A.inst,A.bY,A.bk,A.aO,A.ba] σ af):TabAt af T/\gF af/\ua af:=by
 have p:=h.places
 exact⟨h.tab.calm a fun i hi=>⟨fN (by decide) (p i hi).1,(p i hi).2.2.2⟩,a.get h.host (fun q=>v7 _ (p 11 q).1),a.get h.rules.1 (fun q=>(p 13 q).2.1 rfl),a.get h.rules.2 (fun q=>(p 20 q).2.2.1 rfl)⟩
section
variable {T:ak}{M:O}{S:I (V×V)}{n m:H}{A:bw}{R:be}{σ:St}
theorem Qc(M s t k:O):j8 M s t k=1\/j8 M s t k=0\/j8 M s t k= -1:=by
 unfold j8
 split
 ·exact .inl rfl
 split
 ·exact .inr (.inl rfl)
 split
 ·exact .inl rfl
 split
 ·exact .inr (.inl rfl)
 split
 ·exact .inr (.inl rfl)
 ·exact .inr (.inr rfl)
theorem acV{s a b:H}(h:¬(s=a\/s=b)):s≠a/\s≠b:=⟨fun q=>h (.inl q),fun q=>h (.inr q)⟩
theorem ain{s t k:O}(h:¬0<=j8 M s t k):j8 M s t k= -1:=(Qc M s t k).elim (fun q=>absurd (q▸(by decide:(0:O)<=1)) h) fun q=>q.elim (fun q=>absurd (q▸(by decide:(0:O)<=0)) h) id
theorem gu{x y:H}(h:16<=x)(k:y < 16):x≠y:=fun q=>mT.mpr h (q▸k)
theorem P5{s t:H}{v:O}(b8:cP T)(h:TabAt σ T)(bu:gF σ)(cI:cq σ A R)(hm:R.mode=M)(aH:lY T M s t=D v):az PP (m+4) 47 [.obj A.inst,.int s,.int t] σ=D (.int v,σ):=by
 refine cps fun G bV=>i7 aH fun a eg aH=>i7 aH fun b eW aH=>AF aH fun eT aH=> ?_
 obtain⟨cM,c5⟩:=iY eg
 obtain⟨f5,fC⟩:=iY eW
 have ls:=b8.lt c5
 have lt:=b8.lt fC
 have eT:=acV eT
 have bW:=aio (m:=m+2) (t:=(t:O)) h bu cI c5 ls (dB eT.2) (fun q=>absurd q (dB eT.1))
 rw[hm]at bW
 refine hj aH (fun eL aH=>bV ?_) fun eL aH=> ?_
 ·obtain rfl:=bD aH;exact agI (m:=m+2) eL bW
 rw[ain eL]at bW
 refine hj aH (fun bT aH=>bV ?_) fun bT aH=>hj aH (fun hv aH=>bV ?_) fun hv aH=>nomatch aH
 ·obtain rfl:=bD aH;exact agG (m:=m+2) h bu cI c5 fC ls lt bW (QQ.mp bT)
 ·obtain rfl:=bD aH
  obtain⟨rfl,rfl⟩:=hv
  obtain⟨x,i,rfl⟩:=b8.texts _ _ c5
  obtain⟨y,j,rfl⟩:=b8.texts _ _ fC
  have d7:=b8.big c5 (by decide)
  have dM:=b8.big fC (by decide)
  exact agH (m:=m) h bu cI c5 fC ls lt ⟨gu dM (by decide),gu d7 (by decide)⟩ (gu d7 (by decide)) (gu dM (by decide)) bW
theorem zs{k:O}(h:gG k=aw):k≠2/\k≠8/\k≠7:=by
 obtain⟨ag,ah⟩:=yC.mp h
 obtain⟨ah,aN⟩:=yC.mp ah
 exact⟨r0 ag,r0 ah,r0 aN⟩
theorem Qk{t:H}{k:O}(b8:cP T)(h:aW T t=D k)(am:gG k=aw):∃r,T.rows[t]?=D r/\unmarked r/\t < a4:=by
 obtain⟨rest,e⟩:=iY h
 exact⟨_,e,b8.good _ _ _ e (zs am).1 (zs am).2.1,b8.lt e⟩
theorem aii{s t:H}{v:O}(aH:lY T M s t=D v)(ag:v≠1)(h0:v≠0):v= -1:=i7 aH fun a eg aH=>i7 aH fun b eW aH=>AF aH fun eT aH=>hj aH (fun _ aH=>by
  obtain rfl:=bD aH
  exact(Qc M s t _).elim (fun q=>absurd q ag) fun q=>q.elim (fun q=>absurd q h0) id) fun _ aH=>hj aH (fun _ aH=>(bD aH).symm) fun _ aH=>hj aH (fun _ aH=>absurd (bD aH).symm h0) fun _ aH=>nomatch aH
structure Ih(T:ak)(M:O)(S:I (V×V))(m:H)(A:bw)(σ:St)(r:gz)(s t:H)(p:au×H):Prop where
 kinds:∃a k,aW T s=D a/\aW T t=D k/\gG a=aw/\gG k=aw/\tE T M S r s t a k=D p
 kept:∀v af,az PP (m+4) 43 [.obj A.inst,.int s,.int t] σ=D (v,af)->az PP (m+5) 42 [.obj A.inst,.int s,.int t] σ=D (v,af)
theorem Uf{s t:H}{p:au×H}{r:gz}(a5:iO T M S n A R σ)(e9:M≠3)(he:tC T M S r s t=D p):
  az PP (m+5) 42 [.obj A.inst,.int s,.int t] σ=D (.bool p.1,σ)\/Ih T M S m A σ r s t p:=by
 refine hj he (fun eT he=> ?_) fun eT he=>i7 he fun a eg he=>i7 he fun k eW he=>AF he fun qL he=>i7 he fun v cF he=> ?_
 ·obtain rfl:=bD he;subst eT
  exact .inl (Ug (m:=m+4))
 have qL:=yC.mp (ajI _▸qL)
 obtain⟨lS,es,us,ls⟩:=Qk a5.a8 eg qL.1
 obtain⟨oL,wT,oQ,lt⟩:=Qk a5.a8 eW qL.2
 have hm:R.mode≠3:=a5.mode▸e9
 have B2:=P5 (m:=m) a5.a8 a5.tab a5.host a5.rel a5.mode cF
 refine hj he (fun eL he=> ?_) fun eL he=>i7 he fun w eV he=>AF he fun bT he=> ?_
 ·obtain rfl:=bD he;subst eL
  exact .inl (Ui (m:=m+1) a5.tab a5.host a5.rel hm es wT us oQ ls lt eT B2)
 have pm:CL (m+4) σ A R s t:=fun aX gE=>by
  rw[a5.mode]at aX
  rw[a7 ⟨aX,gE⟩]at eV
  exact⟨w,bT,P5 (m:=m) a5.a8 a5.tab a5.host a5.rel a5.mode eV⟩
 refine hj he (fun hv he=> ?_) fun hv he=> ?_
 ·obtain rfl:=bD he;subst hv
  exact .inl (Uk (m:=m+1) a5.tab a5.host a5.rel hm es wT us oQ ls lt eT B2 pm)
 obtain rfl:=aii cF eL hv
 exact .inr ⟨⟨a,k,eg,eW,qL.1,qL.2,he⟩,fun v af am=>Uh (m:=m+1) a5.tab a5.host a5.rel hm es wT us oQ ls lt eT B2 pm am⟩
end
inductive t7(T:ak)(M:O)(S:I (V×V))(n m:H)(A:bw)(R:be)(σ:St)(s t:H)(p:au×H):Prop
 |mk (af:St) (A':bw) (R':be) (e:az PP (m+8 * n+6) 42 [.obj A.inst,.int s,.int t] σ=D (.bool p.1,af)) (i:iO T M S n A' R' af) (a:kS T M S A R σ A' R' af) (l:R'.dn<=R.dn+p.2)
noncomputable def wh(T:ak)(M:O)(S:I (V×V))(n:H):Prop:=∀(m:H) (σ:St) (A:bw) (R:be) (s t:H) (p:au×H),iO T M S n A R σ->cy T M S n s t=D p->R.dn+p.2<=19000->R.deep+n<=50->t7 T M S n m A R σ s t p
theorem FH{α dg:Type}{f:α->aJ dg}:∀ {l:I α} {m:I dg},rm f l=D m->∀(g:α->dg),(∀a b,f a=D b->g a=b)->m=l.map g/\∀a∈l,f a=D (g a)
 |[],m,e,g,bR=>by cases e;exact⟨rfl,fun a h=>nomatch h⟩
 |a::l,m,e,g,bR=>by
  obtain⟨b,q,e⟩:=hZ e
  obtain⟨av,bl,e⟩:=hZ e
  cases e
  obtain⟨ag,ah⟩:=FH bl g bR
  have:=bR a b q
  subst this
  exact⟨by rw[ag];rfl,fun x aA=>(dj.mp aA).elim (fun e=>e▸q) (ah x)⟩
theorem Nv:∀ {l:I V} {ps:I H},ta l=D ps->l=(ps.map fun(p:H)=>(p:O)).map .int/\∀p∈ps,p < a4
 |[],ps,e=>by cases e;exact⟨rfl,fun _ h=>nomatch h⟩
 |.int i::r,ps,e=>by
  obtain⟨hi,e⟩:=(Ml e).resolve_right fun h=>nomatch h.2
  obtain⟨l,q,e⟩:=hZ e
  cases e
  obtain⟨ag,ah⟩:=Nv q
  obtain⟨n,rfl⟩:=QT hi.1
  exact⟨by rw[eI,eI,<-ag];rfl,fun p ao=>(dj.mp ao).elim (fun e=>e▸fv.mp hi.2) (ah p)⟩
theorem Mz{T:ak}{t:H}{ps:I H}(b8:cP T)(h:iA T t=D ps):gY T t (ps.map fun(p:H)=>(p:O))/\t < a4:=by
 obtain⟨l,e,h⟩:=Fh h
 have lt:=b8.lt e
 refine⟨.union (by rw[e,<-(Nv h).1]) ?_ lt,lt⟩
 rintro rfl
 obtain⟨k,r,cH,q⟩:=b8.aW (i:=2) (by decide)
 rw[e]at cH;cases cH
 exact absurd (q.2.1.mp rfl) (by decide)
section
variable {T:ak}{M:O}{S:I (V×V)}{n m:H}{A:bw}{R cv:be}{σ aC:St}
noncomputable def gX(T:ak)(M:O)(S:I (V×V))(n:H)(A:bw)(cv:be)(aC:St)(tot:H)(j:H)(σ:St):Prop:=∃R,iO T M S n A R σ/\kS T M S A cv aC A R σ/\R.dn+j<=cv.dn+tot
theorem gX.wS{tot i j:H}{aF:St}(h:gX T M S n A cv aC tot (i+j) aF):gX T M S n A cv aC tot i aF:=by
 obtain⟨R,a,b,c⟩:=h
 exact⟨R,a,b,v2 (QS (oW.mpr (cn i j)) _) c⟩
theorem gX.mode{tot:H}:CS A.inst M (gX T M S n A cv aC tot):=fun j σ h=>by
 obtain⟨R,a,b,c⟩:=h
 exact⟨A,R,a.rel.inst,a.mode⟩
theorem T3{k t S:H}{l L T j:O}(h:((k+t:H):O)<=l+S)(kq:S<=100)(c:l+j<=L+T)(cg:0<=j)(eo:L+T<=19100):t<=a4:=by
 unfold a4;omega
theorem gX.mark{tot d:H}(aZ:cv.ba.length < 100000)(eo:cv.dn+tot<=19100):CR (d+1) A.inst cv.ba.length (gX T M S n A cv aC tot):=⟨cp (kf aZ) (by decide),fun j σ h=>by
 obtain⟨R,a,b,c⟩:=h
 exact⟨A,R,rfl,a.rel,by rw[b.ba],T3 a.size.1 a.size.2 c (kd j) eo⟩⟩
theorem TZ{l j c L T:O}(h:l+(j+c)<=L+T)(cg:0<=j)(eo:L+T<=19000):l+c<=19000:=by omega
theorem T1{l eP j c L T:O}(h:l+(j+c)<=L+T)(ah:eP<=l+c):eP+j<=L+T:=by omega
theorem gX.ask{tot j:H}{s t:H}{p:au×H}{aF:St}(ao:wh T M S n)(cc:cv.aO≠ [])(eo:cv.dn+tot<=19000)(hd:cv.deep+n<=50)(he:cy T M S n s t=D p)(h:gX T M S n A cv aC tot (j+p.2) aF):
  ∃af,az PP (m+8 * n+7) 32 [.obj A.inst,.int s,.int t] aF=D (.bool p.1,af)/\gX T M S n A cv aC tot j af:=by
 obtain⟨R,a,ed,jn⟩:=h
 obtain⟨ex,ib,_⟩:=ed.aO
 obtain⟨af,A',R',ag,ah,aN,b1⟩:=ao m aF A R s t p a he (TZ jn (kd j) eo) (by rw[ed.deep];exact hd)
 have:=aN.keep (fun q=>cc (List.append_eq_nil_iff.mp (ib▸q)).1)
 subst this
 exact⟨af,Dj (m:=m+8 * n+5) a.rel ag,R',ah,ed.trans aN,T1 jn b1⟩
end
noncomputable def C6(r:gz)(t:H)(p:O):au:=match r p.toNat t with|some q=>q.1|none=>aw
noncomputable def zF(r:gz)(t:H)(p:O):H:=match r p.toNat t with|some q=>q.2|none=>0
noncomputable def C7(r:gz)(s:H)(p:O):au:=match r s p.toNat with|some q=>q.1|none=>aw
noncomputable def zG(r:gz)(s:H)(p:O):H:=match r s p.toNat with|some q=>q.2|none=>0
theorem OR{T:ak}{r:gz}{s t x:H}{a:O}{p:au×H}(he:nL T r s t a x=D p):∃j,p.2=j+1+x:=hj he (fun _ he=>i7 he fun b _ he=>hj he (fun _ he=>i7 he fun q _ he=>⟨q.2,by rw[<-bD he]⟩) fun _ he=>nomatch he) fun _ he=>⟨0,by rw[<-bD he,g7]⟩
section
variable {T:ak}{M:O}{S:I (V×V)}{n m:H}{A:bw}{R cv:be}{σ aC aF:St}
theorem gX.parts{tot j:H}(h:gX T M S n A cv aC tot j aF):cP T/\TabAt aF T/\gF aF/\ua aF/\∃R,cq aF A R/\R.mode=M:=by
 obtain⟨R,a,b,c⟩:=h
 exact⟨a.a8,a.tab,a.host,a.rules,R,a.rel,a.mode⟩
theorem OS(ao:wh T M S n)(cc:cv.aO≠ []){tot x j:H}{s t:H}{a:O}{p:au×H}(eo:cv.dn+tot<=19000)(hd:cv.deep+n<=50)(eg:aW T s=D a)(he:nL T (cy T M S n) s t a x=D p)(cg:p.2=j+1+x)(h:gX T M S n A cv aC tot j aF):
  ∃af,az PP (m+8 * n+8) 73 [.obj A.inst,.int s,.int t] aF=D (.bool p.1,af)/\gX T M S n A cv aC tot 0 af:=by
 obtain⟨a8,tab,host,rules,R,rel,rn⟩:=h.parts
 refine hj he (fun eT he=>i7 he fun Jl a6 he=>hj he (fun eL he=>i7 he fun q bl he=> ?_) fun _ he=>nomatch he) fun eT he=> ?_
 ·obtain rfl:=bD he
  obtain⟨ams,aT,aX,bZ⟩:=Gj a6
  have aby:q.2=0+j:=by rw[g7];exact akg (akg cg)
  have aD:gX T M S n A cv aC tot (0+q.2) aF:=by rw[g7,aby,g7];exact h
  obtain⟨af,g1,g2⟩:=gX.ask (m:=m) ao cc eo hd bl aD
  rw[QW eL.2.1]at g1
  exact⟨af,ael (m:=m+8 * n+6) tab host rel aT aX (a8.lt aT) bZ eL.2.2 g1,g2⟩
 ·obtain rfl:=bD he
  obtain⟨rest,e⟩:=iY eg
  exact⟨aF,aek (m:=m+8 * n+7) tab host rel e eT (a8.lt e),gX.wS (j:=j) (by rw[g7];exact h)⟩
inductive y8(T:ak)(M:O)(S:I (V×V))(n m:H)(A:bw)(cv:be)(aC:St)(s t:H)(p:au×H):Prop
 |mk (bn:St) (tot:H) (e:az PP (m+8 * n+12) 52 [.obj A.inst,.int s,.int t] aC=D (.bool p.1,bn)) (c:p.2=tot+1) (l:gX T M S n A cv aC tot 0 bn)
theorem wv{L:O}{c tot:H}(h:c=tot+1)(eo:L+c<=19001):L+tot<=19000:=by omega
theorem T7{L:O}{tot:H}(eo:L+tot<=19000):L+tot<=19100:=by omega
section
variable (e9:M≠3)(ao:wh T M S n)(a5:iO T M S n A cv aC)(cc:cv.aO≠ []){s t:H}{a k:O}{p:au×H}(eg:aW T s=D a)(eW:aW T t=D k)(sI:lV S s t=aa)(eo:cv.dn+p.2<=19001)(hd:cv.deep+n<=50)
include ao a5 cc eW eo hd
theorem ahs(eg:aW T s=D 6)(he:Py T M (cy T M S n) s t=D p):y8 T M S n m A cv aC s t p:=by
 refine i7 he fun ps a6 he=>i7 he fun l bl he=> ?_
 obtain rfl:=bD he
 obtain⟨cM,c5⟩:=iY eg
 obtain⟨f5,fC⟩:=iY eW
 obtain⟨aj,ol⟩:=FH bl (fun p=>(C6 (cy T M S n) t p,zF (cy T M S n) t p)) (fun p q e=>by unfold C6 zF;rw[Cj,e])
 have uS:gT l=((ps.map fun(p:H)=>(p:O)).map (zF (cy T M S n) t)).sum:=by
  rw[aj,gT,iK,iK];rfl
 obtain⟨af,a9,bE⟩:=Zn (m:=m+8 * n+9) (j:=0) (s:=s) (t:=(t:O)) (cost:=zF (cy T M S n) t) (ans:=C6 (cy T M S n) t) (Inv:=gX T M S n A cv aC (gT l)) gX.mode (fun i j σ h=>h.wS) a5.tab a5.host (Mz a5.a8 a6).1
  (by rw[g7,<-uS];exact⟨cv,a5,kS.refl ..,n4 _⟩) (fun p gN j σ hi=>by
   obtain⟨fF,EU,rfl⟩:=dk.mp gN
   have g:=gX.ask (m:=m+3) ao cc (wv rfl eo) hd (ol fF EU) hi
   rw[jL m 3]at g
   exact g)
 refine⟨af,gT l, ?_,rfl,bE⟩
 rw[oX,v4]at a9
 rw[aj,oX,v4]
 exact ahy (m:=m+8 * n+10) a5.tab a5.host a5.rel c5 fC (a5.a8.lt c5) (a5.a8.lt fC) a9
include e9 eg sI
omit eW in
theorem aht(h2:a≠6)(eW:aW T t=D 6)(he:Pz T S (cy T M S n) s t a=D p):y8 T M S n m A cv aC s t p:=by
 refine i7 he fun ps a6 he=> ?_
 obtain⟨cM,c5⟩:=iY eg
 obtain⟨f5,fC⟩:=iY eW
 have ls:=a5.a8.lt c5
 have lt:=a5.a8.lt fC
 have pi:=(Mz a5.a8 a6).1
 have Nj:(s:O)∈(ps.map fun(p:H)=>(p:O))↔s∈ps:=⟨fun h=>by obtain⟨x,ag,ah⟩:=dk.mp h;exact fM ah▸ag,rT⟩
 refine hj he (fun hv he=> ?_) fun hv he=>hj he (fun _ he=>by rw[sI]at he;cases he) fun _ he=>i7 he fun l bl he=> ?_
 ·obtain rfl:=bD he
  exact⟨aC,0,PC (m:=m+8 * n+10) a5.tab a5.host a5.rel c5 fC ls lt h2 (aib (m:=m+8 * n+9) a5.tab a5.host a5.rel pi (Nj.mpr hv)),rfl,cv,a5,kS.refl ..,n4 _⟩
 obtain⟨aj,ol⟩:=FH bl (fun p=>(C7 (cy T M S n) s p,zG (cy T M S n) s p)) (fun p q e=>by unfold C7 zG;rw[Cj,e])
 have uS:gT l=((ps.map fun(p:H)=>(p:O)).map (zG (cy T M S n) s)).sum:=by
  rw[aj,gT,iK,iK];rfl
 have Gi:∀j,p.2=j+1+gT l->∃af,az PP (m+8 * n+8+2) 55 [.obj A.inst,.int s,.ab ((ps.map fun(p:H)=>(p:O)).map .int)] aC=D (.bool (l.any (·.1)),af)/\gX T M S n A cv aC (j+gT l) j af:=fun j cg=>by
  have cg:p.2=j+gT l+1:=cg.trans (jL ..)
  obtain⟨af,a9,bE⟩:=agR (m:=m+8 * n+8) (j:=j) (s:=s) (ps:=ps.map fun(p:H)=>(p:O)) (cost:=zG (cy T M S n) s) (ans:=C7 (cy T M S n) s) (Inv:=gX T M S n A cv aC (j+gT l)) (gX.mark a5.da (T7 (wv cg eo))) (fun i j σ h=>h.wS)
   (by rw[<-uS];exact⟨cv,a5,kS.refl ..,n4 _⟩) (fun p gN j σ hi=>by
    obtain⟨fF,EU,rfl⟩:=dk.mp gN
    have g:=gX.ask (m:=m+2) ao cc (wv cg eo) hd (ol fF EU) hi
    rw[jL m 2]at g
    exact g)
  rw[oX]at a9
  exact⟨af,by rw[aj,oX];exact a9,bE⟩
 have nD:¬(s:O)∈(ps.map fun(p:H)=>(p:O)):=fun q=>hv (Nj.mp q)
 have GW:=fun{r} (h:az PP (m+8 * n+10+1) 57 [.obj A.inst,.int s,.int t] aC=D (.bool p.1,r))=>PC (m:=m+8 * n+10) a5.tab a5.host a5.rel c5 fC ls lt h2 h
 refine hj he (fun i9 he=> ?_) fun i9 he=>hj he (fun km he=> ?_) fun _ he=>hj he (fun km he=> ?_) fun _ he=>nomatch he
 ·obtain rfl:=bD he
  obtain⟨af,a9,bE⟩:=Gi 0 (by rw[g7,l6])
  rw[i9]at a9
  exact⟨af,_,GW (aic (m:=m+8 * n+9) a5.tab a5.host a5.rel pi a9 nD),by rw[g7],bE⟩
 ·obtain⟨j,cg⟩:=OR he
  obtain⟨af,a9,bE⟩:=Gi j cg
  rw[QO.mpr i9]at a9
  obtain⟨BY,G6,aar,OU,R',Gs,Ni⟩:=bE.parts
  have LI:p.2=j+gT l+1:=cg.trans (jL ..)
  obtain⟨o6,dR,dq⟩:=OS (m:=m) ao cc (wv LI eo) hd eg he cg bE
  exact⟨o6,_,GW (aid (m:=m+8 * n+9) a5.tab a5.host a5.rel pi a9 nD G6 c5 ls km (JE (m:=m+8 * n+8) Gs OU (LP (m:=m+8 * n+7) Gs (Ni▸e9) dR))),LI,dq⟩
 ·subst km
  obtain rfl:=bD he
  obtain⟨af,a9,bE⟩:=Gi 0 (by rw[g7,l6])
  rw[QO.mpr i9]at a9
  obtain⟨BY,G6,aar,OU,R',Gs,Ni⟩:=bE.parts
  exact⟨af,_,GW (aie (m:=m+8 * n+9) a5.tab a5.host a5.rel pi a9 nD G6 c5 ls),by rw[g7],bE⟩
theorem ahx(ka:gG a=aw)(dy:gG k=aw)(he:tE T M S (cy T M S n) s t a k=D p):y8 T M S n m A cv aC s t p:=by
 have JF:a≠6->k≠6->(hf a\/hf k)->nL T (cy T M S n) s t a 0=D p->y8 T M S n m A cv aC s t p:=fun h2 ja Z3 he=>by
  obtain⟨cM,c5⟩:=iY eg
  obtain⟨f5,fC⟩:=iY eW
  obtain⟨j,cg⟩:=OR he
  have r:=OS (m:=m+1) ao cc (tot:=j) (wv cg eo) hd eg he cg ⟨cv,a5,kS.refl ..,n4 _⟩
  rw[jL m 1]at r
  obtain⟨o6,dR,dq⟩:=r
  exact⟨o6,j,ahw (m:=m+8 * n+8) a5.tab a5.host a5.rel a5.rules (a5.mode▸e9) c5 fC (a5.a8.lt c5) (a5.a8.lt fC) ⟨h2,ja⟩ ⟨(zs ka).2.2,(zs dy).2.2⟩ Z3 dR,cg,dq⟩
 refine hj he (fun h2 he=>ahs ao a5 cc eW eo hd (h2▸eg) he) fun h2 he=>hj he (fun ja he=>aht e9 ao a5 cc eg sI eo hd h2 (ja▸eW) he) fun ja he=>hj he (fun ml he=>JF h2 ja (.inr ml) he) fun _ he=>hj he (fun ml he=>hj he (fun _ he=>by rw[sI]at he;cases he) fun _ he=>JF h2 ja (.inl ml) he) fun _ he=>nomatch he
end
end
theorem iO.less{T:ak}{M:O}{S:I (V×V)}{n fe:H}{A:bw}{R:be}{σ:St}(h:iO T M S fe A R σ)(aZ:n<=fe):iO T M S n A R σ:= {h with aO:=h.aO.less aZ}
theorem agk{S:I (V×V)}{R:be}{s t:H}(aY:gW S R.bk)(am:cx R.bk (cB s t)=aa):lV S s t=aa:=by
 unfold lV
 cases q:cx S (cB s t)with
 |none=>rfl
 |some v=>rw[aY _ _ q]at am;cases am
theorem Mw{s t bc eF:H}(h:cB (s:O) t=cB (bc:O) eF):s=bc/\t=eF:=⟨fM (xr h).1,fM (xr h).2⟩
theorem TR{K t S:H}{l:O}(h:((K+t:H):O)<=l+S):((K+(t+1):H):O)<=l+1+S:=by omega
theorem I4{K t S:H}{l:O}(h:((K+t:H):O)<=l+S)(kq:S<=100)(aj:l<=19001):K < 20000/\t < 20000/\K+t < 20000:=by omega
theorem TS{ci l:O}{tot c:H}(h:ci+(0:H)<=l+1+tot)(aE:c=tot+1)(aj:l+c<=19000):ci<=l+c/\ci<=19001:=by omega
theorem I5{ki fH K t x:H}{l ci:O}(h:((ki+fH:H):O)+(l+1)<=((K+(t+1):H):O)+ci)(aP:fH=t+1+x):((ki+fH:H):O)+l<=((K+t:H):O)+ci/\∀mc,mc<=ki+1->((mc+t:H):O)+l<=((K+t:H):O)+ci:=by
 refine⟨by omega,fun mc aN=>by omega⟩
theorem TU{ki mc fH t x S:H}{ci:O}(h:((ki+fH:H):O)<=ci+S)(aP:fH=t+1+x)(aN:mc<=ki+1):((mc+t:H):O)<=ci+S:=by omega
theorem TV{ki mc fH K:H}{l ci:O}(h:((ki+fH:H):O)+(l+1)<=((K+(0+1):H):O)+ci)(aN:mc<=ki+fH):((mc+0:H):O)+l<=((K+0:H):O)+ci:=by omega
theorem TW{ki mc fH S:H}{ci:O}(h:((ki+fH:H):O)<=ci+S)(aN:mc<=ki+fH):((mc+0:H):O)<=ci+S:=by omega
theorem Dg{l ci:O}(h:l+1<=ci):l<=ci:=yD h
theorem Dh{d dv:O}(h:dv=d+1):dv - 1=d:=h▸Int.add_sub_cancel d 1
theorem TQ{l d:O}{c n:H}(aj:l+c<=19000)(hd:d+(n+1:H)<=50):l < 20000/\d < 60/\l+1+c<=19001/\d+1+n<=50/\l<=19001:=by omega
section
variable {T:ak}{M:O}{S:I (V×V)}{n m:H}{A:bw}{R b2:be}{σ aC bn:St}{s t:H}{p:au×H}
structure m0(T:ak)(M:O)(S:I (V×V))(n:H)(A:bw)(R:be)(σ:St)(s t:H)(p:au×H)(aC:St)(b2:be)(bn:St):Prop where
 a5:iO T M S (n+1) A R σ
 he:cy T M S (n+1) s t=D p
 s1:bx [A.inst,A.bY,A.bk,A.aO,A.ba] σ aC
 dQ:iO T M S n A b2 bn
 ed:kS T M S A (lR R s t) aC A b2 bn
 lk:b2.dn<=R.dn+p.2
 ci:b2.dn<=19001
theorem m0.ex(h:m0 T M S n A R σ s t p aC b2 bn):∃ex,b2.aO=R.aO++cB s t::ex/\b2.aO.length=R.aO.length+1+ex.length/\(p.1=ae->IF T M S (cB s t::ex)):=by
 obtain⟨ex,ib,q7⟩:=h.ed.aO
 have LB:b2.aO=R.aO++cB s t::ex:=ib.trans (hR ..)
 refine⟨ex,LB,by rw[LB,fw,qd,jK,l6 1],fun ao k am=> ?_⟩
 rcases dj.mp am with rfl|am
 ·exact⟨s,t,n+1,p.2,rfl,h.he.trans (by rw[<-ao])⟩
 ·exact q7 k am
theorem m0.kH(h:m0 T M S n A R σ s t p aC b2 bn):((b2.bk.length+b2.aO.length:H):O)+(R.dn+1)<=((R.bk.length+(R.aO.length+1):H):O)+b2.dn:=by
 have:=h.ed.size
 rw[show(lR R s t).aO.length=R.aO.length+1 from fw ..]at this
 exact this
theorem m0.same(h:m0 T M S n A R σ s t p aC b2 bn){A':bw}{ct:St}{l:I H}(e:bx l bn ct)(aj:∀i∈l,i∈ [A.inst,A.bY,A.bk,A.aO,A.ba]):bx [A.inst,A.bY,A.bk,A.aO,A.ba] σ ct/\TabAt ct T/\gF ct/\ua ct:=⟨(h.s1.trans h.ed.same).trans (e.dC aj),h.dQ.rC (e.dC aj)⟩
variable (h:m0 T M S n A R σ s t p aC b2 bn){ct:St}
include h
theorem m0.no{kept:az PP (m+8 * n+14) 42 [.obj A.inst,.int s,.int t] σ=D (.bool p.1,ct)}(cI:cq ct A (kC b2 R.ba.length R.aO.length (cB s t)))(e:bx [A.inst,A.ba,A.aO,A.bY,A.bk] bn ct)(ao:p.1=aw):t7 T M S (n+1) m A R σ s t p:=by
 obtain⟨ex,ib,fW,_⟩:=h.ex
 obtain⟨lZ,fK,eu,eG⟩:=h.same (A':=A) e (by simp only[dj,nX,t5];rintro i (r|r|r|r|r) <;>simp only[r,true_or,or_true])
 have ks:=MD h.dQ.bk (h.he.trans (by rw[<-ao]:_=D (aw,p.2)))
 have ky:=u2 b2.bk (cB s t) (.bool aw)
 have pH:pc T M S (kC b2 R.ba.length R.aO.length (cB s t)).bk/\gW b2.bk (kC b2 R.ba.length R.aO.length (cB s t)).bk/\(kC b2 R.ba.length R.aO.length (cB s t)).bk.length<=b2.bk.length+1:=by
  unfold kC;dsimp only
  split
  ·exact⟨ks.1,ks.2,ky⟩
  ·exact⟨h.dQ.bk,gW.refl _,eJ _⟩
 have aaL:b2.aO.take R.aO.length=R.aO:=by rw[ib];exact List.take_left' rfl
 have EO:b2.ba.take R.ba.length=R.ba:=by rw[h.ed.ba];exact akc
 have iv:=I5 h.kH fW
 have jC:(kC b2 R.ba.length R.aO.length (cB s t)).aO=R.aO:=aaL
 have mI:(kC b2 R.ba.length R.aO.length (cB s t)).ba=R.ba:=EO
 generalize bg:kC b2 R.ba.length R.aO.length (cB s t)=gA at *
 have m7:gA.dn=b2.dn:=by rw[<-bg];rfl
 have dv:gA.mode=b2.mode:=by rw[<-bg];rfl
 have eM:gA.df=b2.df:=by rw[<-bg];rfl
 have zK:gA.twin=b2.twin:=by rw[<-bg];rfl
 have fB:gA.at_=b2.at_:=by rw[<-bg];rfl
 have ja:gA.deep=b2.deep - 1:=by rw[<-bg];rfl
 have eN:gA.bY=dU gA.aO:=by rw[<-bg];rfl
 exact⟨ct,A,gA,kept,⟨h.a5.a8,fK,eu,eG,cI,⟨eN,jC.symm▸h.a5.tidy.nodup,jC.symm▸h.a5.tidy.key⟩,dv.trans h.dQ.mode,pH.1,h.dQ.lW.trans pH.2.1,jC.symm▸h.a5.aO,mI.symm▸h.a5.da,⟨by rw[jC,m7];exact TU h.dQ.size.1 fW pH.2.2,h.dQ.size.2⟩,h.a5.e8⟩,
  ⟨rfl,.inl rfl,fun _=>rfl,fun q=>jC.trans q,⟨[],by rw[jC,fi],nofun⟩,lZ,dv.trans h.ed.mode,ja.trans (Dh h.ed.deep),eM.trans h.ed.df,zK.trans h.ed.twin,fB.trans h.ed.at_,mI,m7▸Dg h.ed.dn,by rw[jC,m7];exact iv.2 _ pH.2.2,gW.trans h.ed.ext pH.2.1⟩,m7▸h.lk⟩
theorem m0.top{cN:H}{kept:az PP (m+8 * n+14) 42 [.obj A.inst,.int s,.int t] σ=D (.bool p.1,ct)}(h0:R.aO=[])(cI:cq ct {A with aO:=cN} (zC {b2 with deep:=b2.deep - 1} ae))(e:bx [A.bY,A.bk,A.inst] bn ct)(l:bn.length<=cN)(ao:p.1=ae):t7 T M S (n+1) m A R σ s t p:=by
 obtain⟨ex,ib,fW,q7⟩:=h.ex
 obtain⟨lZ,fK,eu,eG⟩:=h.same (A':=A) e (by simp only[dj,nX,t5];rintro i (r|r|r) <;>simp only[r,true_or,or_true])
 rw[h0,qf]at ib
 obtain⟨dG,cZ,fY⟩:=MC b2.aO h.dQ.bk (ib▸q7 ao)
 have rj:20 < cN:=gm (iC h.dQ.rules.2) l
 have kH:=h.kH
 rw[h0]at kH
 have f:=h.a5.e8
 exact⟨ct, {A with aO:=cN},zC {b2 with deep:=b2.deep - 1} ae,kept,⟨h.a5.a8,fK,eu,eG,cI,⟨rfl,.nil,nofun⟩,h.dQ.mode,dG,h.dQ.lW.trans cZ,nofun,h.dQ.da,⟨TW h.dQ.size.1 fY,h.dQ.size.2⟩, {f with d:=fN (by decide) rj,uI:=rW (fN (by decide) rj),pM:=rW rj}⟩,
  ⟨rfl,.inr (cp (cp h.s1.1 h.ed.same.1) l),fun q=>absurd h0 q,fun _=>rfl,⟨[],by rw[h0];rfl,nofun⟩,lZ,h.ed.mode,Dh h.ed.deep,h.ed.df,h.ed.twin,h.ed.at_,h.ed.ba,Dg h.ed.dn,by rw[h0];exact TV kH fY,gW.trans h.ed.ext cZ⟩,h.lk⟩
theorem m0.aa8{kept:az PP (m+8 * n+14) 42 [.obj A.inst,.int s,.int t] σ=D (.bool p.1,ct)}(h0:R.aO≠ [])(cI:cq ct A {b2 with deep:=b2.deep - 1})(e:bx [A.inst] bn ct)(ao:p.1=ae):t7 T M S (n+1) m A R σ s t p:=by
 obtain⟨ex,ib,fW,q7⟩:=h.ex
 obtain⟨lZ,fK,eu,eG⟩:=h.same (A':=A) e (k9 (.head _))
 refine⟨ct,A, {b2 with deep:=b2.deep - 1},kept,⟨h.a5.a8,fK,eu,eG,cI,⟨h.dQ.tidy.dU,h.dQ.tidy.nodup,h.dQ.tidy.key⟩,h.dQ.mode,h.dQ.bk,h.dQ.lW,fun k am=> ?_,h.dQ.da,h.dQ.size,h.a5.e8⟩,
  ⟨rfl,.inl rfl,fun _=>rfl,fun q=>absurd q h0,⟨cB s t::ex,ib,q7 ao⟩,lZ,h.ed.mode,Dh h.ed.deep,h.ed.df,h.ed.twin,h.ed.at_,h.ed.ba,Dg h.ed.dn,(I5 h.kH fW).1,h.ed.ext⟩,h.lk⟩
 have ic:k∈b2.aO:=am
 rw[ib]at ic
 rcases l4.mp ic with ic|ic
 ·exact h.a5.aO k ic
 ·obtain⟨bc,eF,fe,fA,a6,bl⟩:=q7 ao k ic
  exact⟨bc,eF,a6,.inl ⟨fe,fA,bl⟩⟩
end
section
variable {T:ak}{M:O}{S:I (V×V)}{n m:H}{A:bw}{R:be}{σ:St}{s t:H}{p:au×H}
theorem Uj(e9:M≠3)(bh:wh T M S n)(a5:iO T M S (n+1) A R σ)(he:cy T M S (n+1) s t=D p)(xj:cy T M S n s t=aa)(aj:R.dn+p.2<=19000)(hd:R.deep+(n+1:H)<=50)(bu:Ih T M S (m+8 * n+9) A σ (cy T M S n) s t p)(am:cx R.bk (cB s t)=aa)(ew:cB s t∉R.aO):t7 T M S (n+1) m A R σ s t p:=by
 obtain⟨a,k,eg,eW,ka,dy,aaJ⟩:=bu.kinds
 have a0:=TQ aj hd
 have Us:=I4 a5.size.1 a5.size.2 a0.2.2.2.2
 obtain⟨aC,ag,yl,s1,sy⟩:=Mv (m:=m+8 * n+11) a5.rel a5.tidy am ew a0.1 a0.2.1 (cp (kf a5.da) (by decide)) Us.2.1
 have vA:bx [A.inst,A.bY,A.bk,A.aO,A.ba] σ aC:=s1.dC (by simp only[dj,nX,t5];rintro i (r|r|r) <;>simp only[r,true_or,or_true])
 obtain⟨t1,fH,jC⟩:=a5.rC vA
 have bO:(R.aO++ [cB (s:O) t]).length=R.aO.length+1:=fw ..
 have ZI:iO T M S n A (lR R s t) aC:=⟨a5.a8,t1,fH,jC,ag,yl,a5.mode,a5.bk,a5.lW,fun k am=>(l4.mp am).elim (fun am=>a5.aO.less (eJ n) k am) fun am=>⟨s,t,dt.mp am,.inr xj⟩,a5.da,⟨by
   show((R.bk.length+(R.aO++ [cB (s:O) t]).length:H):O)<=_
   rw[bO];exact TR a5.size.1,a5.size.2⟩,a5.e8⟩
 have cc:(lR R s t).aO≠ []:=fun q=>by have:=bs HC q;rw[show(lR R s t).aO.length=R.aO.length+1 from bO]at this;cases this
 obtain⟨bn,tot,aX,bT,b2,dQ,Jk,ack⟩:=ahx (m:=m) e9 bh ZI cc eg eW (agk a5.lW am) a0.2.2.1 a0.2.2.2.1 ka dy aaJ
 have e0:=TS ack bT aj
 have mid:m0 T M S n A R σ s t p aC b2 bn:=⟨a5,he,vA,dQ,Jk,e0.1,e0.2⟩
 have Dl:=I4 dQ.size.1 dQ.size.2 e0.2
 have gE:b2.ba.length<=a4:=cp (kf dQ.da) (by decide)
 have rn:¬(lR R s t).mode=3:=fun q=>e9 (a5.mode.symm.trans q)
 have call:∀ {b},p.1=b->az PP (m+8 * n+11+1) (if(lR R s t).mode=3 then 58 else 52) [.obj A.inst,.int s,.int t] aC=D (.bool b,bn):=fun{b} ax=>by rw[bz rn,<-ax];exact aX
 have le:∀ {n},n < 20000->n < a4:=fun h=>fN h (by decide)
 cases ao:p.1 with
 |false=>
  obtain⟨ex,ib,fW,_⟩:=mid.ex
  obtain⟨ct,bt,aT,aX,bZ⟩:=Kr (m:=m+8 * n+11) (a:=R.ba.length) (b:=R.aO.length) sy ag (call ao) dQ.rel dQ.tidy (by rw[fW,jK];exact cn ..) (fN Dl.2.1 (by decide)) gE (le Dl.1)
  exact mid.no (kept:=(bu.kept _ _ aT).trans (by rw[ao])) aX bZ ao
 |true=>
  by_cases h0:R.aO=[]
  ·have hl:R.aO.length=0:=by rw[h0];rfl
   rw[hl]at sy
   obtain⟨ct,cN,bt,aT,aX,bZ,dP,eD⟩:=Xg (m:=m+8 * n+11) (a:=R.ba.length) sy ag (call ao) dQ.rel dQ.tidy gE (le Dl.2.2) (by rw[Jk.ba];rfl)
   exact mid.top (kept:=(bu.kept _ _ aT).trans (by rw[ao])) h0 aX bZ dP ao
  ·obtain⟨ct,bt,aT,aX,bZ⟩:=Xf (m:=m+8 * n+11) (a:=R.ba.length) (b:=R.aO.length) sy ag (call ao) dQ.rel (fun q=>h0 (Q8.mp q))
   exact mid.aa8 (kept:=(bu.kept _ _ aT).trans (by rw[ao])) h0 aX bZ ao
theorem Dk{x:V×St}(a5:iO T M S n A R σ)(h:az PP (m+8 * n+6) 42 [.obj A.inst,.int s,.int t] σ=D (.bool p.1,σ)):t7 T M S n m A R σ s t p:=⟨σ,A,R,h,a5,kS.refl ..,QU (kd _)⟩
theorem Di(e9:M≠3):∀n,wh T M S n
 |0=>fun m σ A R s t p _ e=>nomatch e
 |n+1=>fun m σ A R s t p a5 he aj hd=>by
  cases xj:cy T M S n s t with
  |some q=>
   have:=qD (eJ n) xj
   rw[he]at this;cases this
   obtain⟨af,A',R',g1,g2,g3,uI⟩:=Di e9 n (m+8) σ A R s t p (a5.less (eJ n)) xj aj (v2 (QS (oW.mpr (eJ n)) _) hd)
   refine⟨af,A',R',by rw[jL m 8]at g1;exact g1, {g2 with aO:=fun k am=> ?_},g3,uI⟩
   obtain⟨ex,ib,q7⟩:=g3.aO
   rw[ib]at am
   rcases l4.mp am with am|am
   ·exact a5.aO k am
   ·obtain⟨bc,eF,fe,fA,aT,aX⟩:=q7 k am
    exact⟨bc,eF,aT,.inl ⟨fe,fA,aX⟩⟩
  |none=>
   rcases Uf (m:=m+8 * n+9) a5 e9 he with h|bu
   ·exact Dk (x:=(.none,σ)) a5 h
   cases am:cx R.bk (cB s t)with
   |some v=>
    obtain⟨bc,eF,fz,fe,fA,aT,aX,bZ⟩:=a5.bk _ _ am
    obtain⟨rfl,rfl⟩:=Mw aT
    cases C5 he bZ
    exact Dk (x:=(.none,σ)) a5 (bu.kept _ _ (aX▸Mu (m:=m+8 * n+12) a5.rel am))
   |none=>
    by_cases ew:cB s t∈R.aO
    ·obtain⟨bc,eF,aT,aX⟩:=a5.aO _ ew
     obtain⟨rfl,rfl⟩:=Mw aT
     have ax:p.1=ae:=by
      rcases aX with⟨fe,fA,aX⟩|aX
      ·cases C5 he aX;rfl
      ·rw[he]at aX;cases aX
     exact Dk (x:=(.none,σ)) a5 (ax▸bu.kept _ _ (abH (m:=m+8 * n+12) a5.rel a5.tidy am ew))
    ·exact Uj e9 (Di e9 n) a5 he xj aj hd bu am ew
end
section
variable {T:ak}{M:O}{S:I (V×V)}{n m:H}
noncomputable def ie(t:H):au:=decide (t=0)||(decide (t=1)||(decide (t=2)||decide (t=13)))
theorem nz{t:H}(h:ie t=aw):t≠0/\t≠1/\t≠2/\t≠13:=by
 obtain⟨ag,ah⟩:=yC.mp h
 obtain⟨ah,aN⟩:=yC.mp ah
 obtain⟨aN,b1⟩:=yC.mp aN
 exact⟨r0 ag,r0 ah,r0 aN,r0 b1⟩
theorem hB{t:H}(h:16<=t):ie t=aw:=by
 unfold ie
 rw[ek (gu h (by decide)),ek (gu h (by decide)),ek (gu h (by decide)),ek (gu h (by decide))];rfl
noncomputable def m2(a:O)(t:H):Prop:=ie t=aw\/(t=2/\openK a=ae)
theorem Qb{s t:H}{k:O}(aY:ie s=aw)(aP:m2 k t):j8 M s t k= -1:=by
 obtain⟨kG,s1,s2,lT⟩:=nz aY
 have jC:t≠0/\t≠13/\t≠1/\¬(t=2/\openK k=aw):=by
  rcases aP with h|⟨rfl,h⟩
  ·obtain⟨a,b,c,d⟩:=nz h;exact⟨a,d,b,fun q=>c q.1⟩
  ·exact⟨by decide,by decide,by decide,fun q=>by rw[h]at q;cases q.2⟩
 have OV:(s:O)≠0:=dB kG
 have ahD:(t:O)≠1:=dB jC.2.2.1
 unfold j8
 rw[bz (fun q=>by rcases q with q|q|q|q;exact dB jC.1 q;exact dB jC.2.1 q;exact dB s2 q;exact dB lT q),bz (fun q=>OV q.1),bz ahD,bz OV,bz (fun q=>jC.2.2.2 ⟨fM q.1,q.2⟩)]
theorem B0{s t:H}{a b v:O}(eg:aW T s=D a)(eW:aW T t=D b)(aY:¬(s=0\/s=1))(h:P2 M s t a b=D v):lY T M s t=D v:=av eg (av eW ((bz aY).trans h))
theorem AV{s:H}(h:ie s=aw):¬(s=0\/s=1):=fun q=>q.elim (nz h).1 (nz h).2.1
theorem P6{s t:H}{a b:O}(eg:aW T s=D a)(eW:aW T t=D b)(aY:ie s=aw)(aP:m2 a t)(aR:(openK a||openK b)=ae):lY T M s t=D (-1):=B0 eg eW (AV aY) ((bz (by rw[Qb aY aP];decide)).trans (a7 aR))
theorem cP.oA(h:cP T){i:H}(hi:i∈ [0,1,2,3,4,5,6,7]):KK.aW T i=D 1:=by
 have:∀i∈ [0,1,2,3,4,5,6,7],i < 16/\(h6[i]?).bind kdOf=D 1:=by decide
 obtain⟨ag,ah⟩:=this i hi
 unfold KK.aW
 rw[h.first i ag];exact ah
theorem cP.oz(h:cP T):KK.aW T 2=D 1:=h.oA (by decide)
theorem mC(b8:cP T){t:H}{k:O}(h:aW T t=D k)(am:¬(k=1\/k=2\/k=8\/k=6)):16<=t:=by
 obtain⟨r,e⟩:=iY h
 exact b8.big e am
theorem Du{b:au}(h:b=aw):¬b=ae:=by rw[h];decide
theorem Pt{s t:H}{a b:O}{r:gz}(eg:aW T s=D a)(eW:aW T t=D b)(fm:s≠t)(iX:(gG a||gG b)=aw)(aH:lY T M s t=D 1):tC T M S r s t=D (ae,0):=(bz fm).trans (av eg (av eW ((bz (Du iX)).trans (av aH (a7 rfl)))))
theorem rB{s t:H}{a b:O}{r:gz}(eg:aW T s=D a)(eW:aW T t=D b)(fm:s≠t)(aY:ie s=aw)(aP:m2 a t)(aR:(openK a||openK b)=ae)(iX:(gG a||gG b)=aw):
  tC T M S r s t=tE T M S r s t a b:=by
 refine(bz fm).trans (av eg (av eW ((bz (Du iX)).trans (av (P6 eg eW aY aP aR) ((bz (by decide)).trans ?_)))))
 have go:∀w,w≠1->Ps T M S r s t a b (-1) w=tE T M S r s t a b:=fun w hw=>(bz hw).trans (bz (by decide))
 by_cases c:M=2/\t≠2
 ·exact av ((a7 c).trans (P6 eW eg (aP.resolve_right fun q=>c.2 q.1) (.inl aY) (ajK .. ▸aR))) (go _ (by decide))
 ·exact av (bz c) (go _ (by decide))
theorem Pu{s t:H}{a b:O}{r:gz}(eg:aW T s=D a)(eW:aW T t=D b)(fm:s≠t)(iX:(gG a||gG b)=aw)(aH:lY T M s t=D 0)(hw:M=2->t≠2->lY T M t s=D 0):tC T M S r s t=D (aw,0):=by
 refine(bz fm).trans (av eg (av eW ((bz (Du iX)).trans (av aH ((bz (by decide)).trans ?_)))))
 by_cases c:M=2/\t≠2
 ·exact av ((a7 c).trans (hw c.1 c.2)) ((bz (by decide)).trans (a7 rfl))
 ·exact av (bz c) ((bz (by decide)).trans (a7 rfl))
theorem I0(b8:cP T){p q:H}(ao:aW T p=D 3)(dx:aW T q=D 3):cy T M S (n+1) p q=D (decide (p=q),0):=by
 by_cases e:p=q
 ·rw[cW e];exact a7 e
 rw[ek e]
 have d7:=hB (mC b8 ao (by decide))
 have dM:=hB (mC b8 dx (by decide))
 have yi:∀ {x y:H},aW T x=D 3->aW T y=D 3->ie x=aw->ie y=aw->lY T M x y=D 0:=fun aA bo M8 acq=>B0 aA bo (AV M8) ((bz (by rw[Qb M8 (.inl acq)];decide)).trans ((bz (by decide)).trans (a7 ⟨rfl,rfl⟩)))
 exact Pu ao dx e rfl (yi ao dx d7 dM) fun _ _=>yi dx ao dM d7
theorem TM(b8:cP T){p:H}(ao:aW T p=D 3):cy T M S (n+1) p 2=D (aw,0):=by
 have d7:=hB (mC b8 ao (by decide))
 obtain⟨aec,hn,gR,aed⟩:=nz d7
 have e:j8 M p (2:H) 3=0:=by
  have Oe:(p:O)≠0:=dB aec
  unfold j8
  rw[bz (fun q=>by rcases q with q|q|q|q;exact absurd q (by decide);exact absurd q (by decide);exact dB gR q;exact dB aed q),bz (fun q=>Oe q.1),bz (by decide),bz Oe,a7 ⟨rfl,rfl⟩]
 exact Pu ao b8.oz gR rfl (B0 ao b8.oz (AV d7) ((a7 (by rw[e];decide)).trans (by rw[e]))) fun _ q=>absurd rfl q
theorem Qa{s t:H}{k:O}(h:t=0\/s=2):j8 M s t k=1:=a7 (h.elim (fun h=> .inl (by rw[h];rfl)) fun h=> .inr (.inr (.inl (by rw[h];rfl))))
theorem P1{s t:H}{a b:O}(eg:aW T s=D a)(eW:aW T t=D b)(aY:¬(s=0\/s=1))(h:j8 M s t a=1):lY T M s t=D 1:=B0 eg eW aY ((a7 (by rw[h];decide)).trans (by rw[h]))
theorem Dc(b8:cP T){t:H}{k:O}(aP:aW T t=D k)(iX:gG k=aw):cy T M S (n+1) 2 t=D (ae,0):=by
 by_cases e:2=t
 ·exact a7 e
 ·exact Pt b8.oz aP e iX (P1 b8.oz aP (by decide) (Qa (.inr rfl)))
theorem TJ(b8:cP T){s:H}{a:O}(eg:aW T s=D a)(aY:ie s=aw)(aI:gG a=aw):cy T M S (n+1) s 0=D (ae,0):=Pt eg (b8.oA (by decide)) (nz aY).1 (by rw[aI];rfl) (P1 eg (b8.oA (by decide)) (AV aY) (Qa (.inl rfl)))
theorem C8{s:H}:cy T M S (n+1) s s=D (ae,0):=a7 rfl
theorem xI{f:H->aJ (au×H)}{g:H->au}{C:H}:∀ {l:I H},(∀a∈l,∃c,c<=C/\f a=D (g a,c))->∃r,rm f l=D r/\r.map (·.1)=l.map g/\gT r<=l.length * C
 |[],_=>⟨[],rfl,rfl,by simp[gT]⟩
 |a::l,h=>by
  obtain⟨c,aE,e⟩:=h a (.head _)
  obtain⟨r,ag,ah,aN⟩:=xI fun x aA=>h x (.tail _ aA)
  refine⟨(g a,c)::r,by simp only[rm,e,tV,ag],by simp[ah], ?_⟩
  have:gT ((g a,c)::r)=c+gT r:=by simp[gT]
  rw[this,qd,Nat.succ_mul];omega
theorem ue{r:I (au×H)}{l:I H}{g:H->au}(h:r.map (·.1)=l.map g):r.any (·.1)=l.any g/\r.all (·.1)=l.all g:=by
 constructor
 ·have:(r.map (·.1)).any id=(l.map g).any id:=by rw[h]
  simpa[oX]using this
 ·have:(r.map (·.1)).all id=(l.map g).all id:=by rw[h]
  simpa[v4]using this
inductive iR(T:ak):H->I H->Prop
 |never:iR T 2 []
 |one {t:H}:aW T t=D 3->iR T t [t]
 |union {t:H} {ps:I H}:iA T t=D ps->2<=ps.length->(∀p∈ps,aW T p=D 3)->iR T t ps
inductive kk(T:ak):H->I H->H->Prop
 |names {s:H} {ns:I H}:iR T s ns->kk T s ns 0
 |param {s b d:H} {ns:I H}:nI T s=D (b:O)->0 < b->b < s->kk T b ns d->kk T s ns (d+1)
noncomputable def iV(M:O)(ns nt:I H):au:=if M=2 then ns.isEmpty||ns.any (fun x=>decide (x∈nt))else ns.all (fun x=>decide (x∈nt))
theorem mD{t:H}{ps:I H}(h:iA T t=D ps):aW T t=D 6:=by
 obtain⟨l,e,_⟩:=Fh h;exact gg e
theorem abN(b8:cP T){t:H}{ps:I H}(h:iA T t=D ps)(aN:∀p∈ps,aW T p=D 3):16<=t:=by
 obtain⟨r,e,q⟩:=Fh h
 rcases qi t 16 with l|l
 ·obtain⟨k,f3,cH,_,bl,_⟩:=b8.aW l
  rw[e]at cH;cases cH
  have:=bl.mp rfl
  subst this
  have pq:=b8.first 12 (by decide)
  rw[e,show h6[12]?=D (.ab [.int 6,.ab [.int 8,.int 9]])from rfl]at pq
  cases pq
  rw[show ta [V.int 8,V.int 9]=D [8,9]from rfl]at q
  cases q
  have:=aN 8 (.head _)
  rw[gg ((b8.first 8 (by decide)).trans (rfl:h6[8]?=D (.ab [.int 2,.int 0,.int 0])))]at this;cases this
 ·exact l
theorem iR.aW{t:H}{nt:I H}(b8:cP T)(h:iR T t nt):(t=2/\KK.aW T t=D 1/\nt=[])\/(16<=t/\KK.aW T t=D 3/\nt=[t])\/(16<=t/\KK.aW T t=D 6/\iA T t=D nt/\2<=nt.length/\∀p∈nt,KK.aW T p=D 3):=by
 cases h with
 |never=>exact .inl ⟨rfl,b8.oz,rfl⟩
 |one h=>exact .inr (.inl ⟨mC b8 h (by decide),h,rfl⟩)
 |union h ah aN=>exact .inr (.inr ⟨abN b8 h aN,mD h,h,ah,aN⟩)
end
section
variable {T:ak}{M:O}{S:I (V×V)}{n m:H}
theorem oD:¬hf 1:=by decide
theorem acY:¬hf 3:=by decide
theorem oc:hf 10:=by decide
theorem xX{s:H}{b:O}(h:nI T s=D b):aW T s=D 10:=by
 obtain⟨p,e,_⟩:=Gj h;exact gg e
theorem OT(b8:cP T){r:gz}{s t b x:H}{p:au×H}(h:nI T s=D (b:O))(h0:0 < b)(ax:b < s)(bg:r b t=D p):nL T r s t 10 x=D (p.1,p.2+1+x):=by
 obtain⟨q,e,_⟩:=Gj h
 have fC:kY (b:O)=b:=bz fun q=>q.elim (fun q=>xL q) (dB (rW h0))
 refine(a7 rfl).trans (av h ?_)
 unfold OQ
 rw[fC]
 exact(a7 ⟨fN ax (b8.lt e),kd b,dB (hI ax)⟩).trans (av bg rfl)
theorem Te{ns nt:I H}(ah:2<=ns.length):(if M=2 then ns.any (fun x=>decide (x∈nt))else ns.all (fun x=>decide (x∈nt)))=iV M ns nt:=by
 cases ns with
 |nil=>cases ah
 |cons=>rfl
theorem C1{nt:I H}:iV M [] nt=ae:=by unfold iV;split <;>rfl
theorem IK{s:H}{nt:I H}:iV M [s] nt=decide (s∈nt):=by
 unfold iV;split
 ·exact Ht _
 ·exact v0 _
theorem Tg:∀ {ns:I H},iV M ns ns=ae
 |[]=>C1
 |x::r=>by
  unfold iV;split
  ·exact QQ.mpr (.inr (mR.mpr ⟨x,.head _,cW (.head _)⟩))
  ·exact ke.mpr fun y bo=>cW bo
theorem I7{c d:H}(h:c<=1+d):c<=5+5 * d+4 * d * d:=cp h (cp (ake (by decide) (Nat.le_mul_of_pos_left d (by decide))) (cn ..))
theorem I8(d:H):5+5 * (d+1)+4 * (d+1) * (d+1)=(5+5 * d+4 * d * d)+(8 * d+9):=by
 rw[akq,akq,Nat.add_mul d,Nat.mul_add d];omega
theorem T4{c d:H}(h:c<=4 * (1+(d+1))):c+1<=5+5 * (d+1)+4 * (d+1) * (d+1):=by rw[I8];omega
theorem T5{c r d:H}(aE:c<=5+5 * d+4 * d * d)(h:r<=4 * (1+(d+1))):c+1+r<=5+5 * (d+1)+4 * (d+1) * (d+1):=by rw[I8];omega
theorem I1{s t:H}{ns nt:I H}{k:O}(ls:16<=s)(am:iA T s=D ns)(ah:2<=ns.length)(pY:aW T t=D k)(cZ:gG k=aw)(aP:t=2\/16<=t)(fm:s≠t){C:H}
  (ao:∀p∈ns,∃c,c<=C/\cy T M S n p t=D (decide (p∈nt),c)):∃c,c<=ns.length * C+1/\cy T M S (n+1) s t=D (iV M ns nt,c):=by
 obtain⟨r,dR,dq,e2⟩:=xI ao
 refine⟨gT r+1,yJ e2,(rB (mD am) pY fm (hB ls) (aP.elim (fun e=> .inr ⟨e,rfl⟩) fun h=> .inl (hB h)) rfl (by rw[cZ];rfl)).trans ((a7 rfl).trans (av am (av dR ?_)))⟩
 unfold GY
 rw[(ue dq).1,(ue dq).2,Te ah]
theorem m2.big{a:O}{t:H}(aI:openK a=ae)(h:t=2\/16<=t):m2 a t:=h.elim (fun e=> .inr ⟨e,aI⟩) fun h=> .inl (hB h)
theorem IZ(b8:cP T){s b t:H}{k:O}{p:au×H}(ax:nI T s=D (b:O))(h0:0 < b)(gL:b < s)(eW:aW T t=D k)(fm:s≠t)(aP:m2 10 t)(am:gG k=aw)(c7:k≠6)(bg:cy T M S n b t=D p):
  cy T M S (n+1) s t=D (p.1,p.2+1):=by
 have nu:=xX ax
 have r:nL T (cy T M S n) s t 10 0=D (p.1,p.2+1):=OT b8 ax h0 gL bg
 refine(rB nu eW fm (hB (mC b8 nu (by decide))) aP rfl (by rw[am];rfl)).trans ((bz (by decide)).trans ((bz c7).trans ?_))
 by_cases c:hf k
 ·exact(a7 c).trans r
 ·exact(bz c).trans ((a7 oc).trans ((bz (by decide)).trans r))
theorem Db(b8:cP T){s d:H}{ns:I H}(aY:kk T s ns d)(aj:ns.length<=4){t:H}{nt:I H}(aP:(t=2/\nt=[])\/(aW T t=D 3/\nt=[t])):
  ∃c,c<=1+d/\cy T M S (2+d) s t=D (iV M ns nt,c):=by
 obtain⟨k,pY,am,sa⟩:∃k,aW T t=D k/\(k=1\/k=3)/\(t=2\/16<=t):=by
  rcases aP with⟨rfl,_⟩|⟨h,_⟩
  ·exact⟨1,b8.oz,.inl rfl,.inl rfl⟩
  ·exact⟨3,h,.inr rfl,.inr (mC b8 h (by decide))⟩
 have pm:gG k=aw/\k≠6/\k≠10:=by rcases am with rfl|rfl <;>decide
 have x9:∀ {p n:H},aW T p=D 3->cy T M S (n+1) p t=D (decide (p∈nt),0):=fun{p n} ao=>by
  rcases aP with⟨rfl,rfl⟩|⟨h,rfl⟩
  ·exact TM b8 ao
  ·rw[I0 b8 ao h,kQ.mpr dt]
 induction aY with
 |names h=>
  rcases h.aW b8 with⟨rfl,_,rfl⟩|⟨_,aN,rfl⟩|⟨ls,c7,uO,ah,aN⟩
  ·exact⟨0,kL _,by rw[Dc b8 pY pm.1,C1]⟩
  ·exact⟨0,kL _,by rw[x9 aN,IK]⟩
  ·obtain⟨c,aE,e⟩:=I1 (n:=1) (M:=M) (S:=S) (nt:=nt) (C:=0) ls uO ah pY pm.1 sa (fun q=>by rw[q,pY]at c7;exact pm.2.1 (bD c7)) (fun p ao=>⟨0,dm _,x9 (aN p ao)⟩)
   exact⟨c,aE,e⟩
 |@param s b d ns ax h0 gL LS bh=>
  obtain⟨c,aE,e⟩:=bh aj
  exact⟨c+1,yJ aE,IZ b8 ax h0 gL pY (fun q=>by have:=xX ax;rw[q,pY]at this;exact pm.2.2 (bD this)) (m2.big rfl sa) pm.1 pm.2.1 e⟩
theorem Th{ns nt:I H}{q:H}(dx:q∈nt)(h:iV M ns [q]=ae):iV M ns nt=ae:=by
 unfold iV at h ⊢
 split
 ·rename_i e
  rw[a7 e]at h
  simp only[QP,mR,dt,yS]at h ⊢
  rcases h with h|⟨x,ag,ah⟩
  ·exact .inl h
  ·exact .inr ⟨x,ag,ah▸dx⟩
 ·rename_i e
  rw[bz e]at h
  simp only[ke,dt,yS]at h ⊢
  exact fun x aA=>(h x aA)▸dx
theorem IY(b8:cP T){s d:H}{ns:I H}(aY:kk T s ns d)(aj:ns.length<=4){t:H}{nt:I H}(aP:iR T t nt)(EM:nt.length<=4):
  ∃c,c<=5+5 * d+4 * d * d/\cy T M S (3+d) s t=D (iV M ns nt,c):=by
 have up:∀ {p},cy T M S (2+d) s t=D p->cy T M S (3+d) s t=D p:=fun e=>qD (rU (by decide:2<=3) d) e
 rcases aP.aW b8 with⟨rfl,_,rfl⟩|⟨sa,aN,rfl⟩|⟨sa,c7,uO,ah,aN⟩
 ·obtain⟨c,aE,e⟩:=Db (M:=M) (S:=S) b8 aY aj (.inl ⟨rfl,rfl⟩)
  exact⟨c,I7 aE,up e⟩
 ·obtain⟨c,aE,e⟩:=Db (M:=M) (S:=S) b8 aY aj (.inr ⟨aN,rfl⟩)
  exact⟨c,I7 aE,up e⟩
 clear up
 have x9:∀ {p:H},aW T p=D 3->∃c,c<=1/\cy T M S 2 p t=D (decide (p∈nt),c):=fun{p} ao=>by
  have ot:p≠t:=fun q=>by rw[q,c7]at ao;exact absurd (bD ao) (by decide)
  have go:=rB (M:=M) (S:=S) (r:=cy T M S 1) ao c7 ot (hB (mC b8 ao (by decide))) (.inl (hB sa)) rfl rfl
  by_cases e:p∈nt
  ·exact⟨1,dm _,go.trans ((bz (by decide)).trans ((a7 rfl).trans (av uO ((a7 e).trans (by rw[cW e])))))⟩
  ·obtain⟨r,dR,dq,e2⟩:=xI (f:=fun q=>cy T M S 1 p q) (g:=fun q=>decide (p=q)) (C:=0) (l:=nt) fun q dx=>⟨0,dm _,I0 b8 ao (aN q dx)⟩
   refine⟨gT r+1,yJ e2,go.trans ((bz (by decide)).trans ((a7 rfl).trans (av uO ((bz e).trans ((bz (by decide)).trans (av dR ((bz ?_).trans ((bz acY).trans ((a7 rfl).trans (by rw[ek e]))))))))))⟩
   rw[(ue dq).1,mR]
   rintro ⟨q,dx,he⟩
   exact e (gy he▸dx)
 induction aY with
 |names h=>
  rcases h.aW b8 with⟨rfl,_,rfl⟩|⟨_,Ew,rfl⟩|⟨ls,alW,EH,Af,Ew⟩
  ·exact⟨0,kL _,by rw[Dc b8 c7 rfl,C1]⟩
  ·obtain⟨c,aE,e⟩:=x9 Ew
   exact⟨c,cp aE (by decide),by rw[qD (by decide:2<=3) e,IK]⟩
  ·rename_i s ns
   by_cases fm:s=t
   ·subst fm
    rw[uO]at EH;cases EH
    exact⟨0,kL _,by rw[Tg];exact a7 rfl⟩
   obtain⟨c,aE,e⟩:=I1 (n:=2) (M:=M) (S:=S) (nt:=nt) (C:=1) ls EH Af c7 rfl (.inr sa) fm (fun p ao=>x9 (Ew p ao))
   exact⟨c,cp aE (by rw[Nat.mul_one];exact yJ aj),e⟩
 |@param s b d ns ax h0 gL LS bh=>
  obtain⟨c,aE,e⟩:=bh aj
  have nu:=xX ax
  have nD:s∉nt:=fun q=>by have:=aN s q;rw[nu]at this;exact absurd (bD this) (by decide)
  have low:∀q∈nt,∃c,c<=1+(d+1)/\cy T M S (3+d) s q=D (iV M ns [q],c):=fun q dx=>by
   obtain⟨c,aE,e⟩:=Db (M:=M) (S:=S) b8 (.param ax h0 gL LS) aj (.inr ⟨aN q dx,rfl⟩)
   exact⟨c,aE,by rw[show 3+d=2+(d+1)by rw[l6 d,<-jK]];exact e⟩
  obtain⟨r,dR,dq,e2⟩:=xI (g:=fun q=>iV M ns [q]) low
  have uS:gT r<=4 * (1+(d+1)):=cp e2 (Nat.mul_le_mul_right _ EM)
  have go:∀ {x},PA T (cy T M S (3+d)) s t 10 r=x->cy T M S (3+(d+1)) s t=x:=fun aA=>(rB (r:=cy T M S (3+d)) nu c7 (fun q=>by rw[q,c7]at nu;exact absurd (bD nu) (by decide)) (hB (mC b8 nu (by decide))) (.inl (hB sa)) rfl rfl).trans ((bz (by decide)).trans ((a7 rfl).trans (av uO ((bz nD).trans ((bz (by decide)).trans (av dR aA))))))
  by_cases Aj:r.any (·.1)=ae
  ·refine⟨gT r+1,T4 uS,go ((a7 Aj).trans ?_)⟩
   rw[(ue dq).1,mR]at Aj
   obtain⟨q,aaC,aaD⟩:=Aj
   rw[Th aaC aaD]
  ·exact⟨c+1+gT r,T5 aE uS,go ((bz Aj).trans ((a7 oc).trans (OT b8 ax h0 gL e)))⟩
end
section
variable {T:ak}{M:O}{S:I (V×V)}{n m:H}
noncomputable def x3(a k:O):au:= !gG a && !gG k && !decide (a=6) && !decide (k=6) && !decide (a=10) && (openK a||openK k) && (decide (hf k)||(decide (hf a) && !decide (a=15)))
theorem Dd{s t:H}{a k:O}(eg:aW T s=D a)(eW:aW T t=D k)(fm:s≠t)(aY:ie s=aw)(aP:m2 a t)(ax:x3 a k=ae):cy T M S (n+1) s t=D (aw,1):=by
 simp only[x3,yy,yA,alE]at ax
 obtain⟨⟨⟨⟨⟨⟨d7,dM⟩,qB⟩,rg⟩,wr⟩,aR⟩,hd⟩:=ax
 have r:nL T (cy T M S n) s t a 0=D (aw,1):=bz wr
 refine(rB eg eW fm aY aP aR (by rw[d7,dM];rfl)).trans ((bz qB).trans ((bz rg).trans ?_))
 by_cases c:hf k
 ·exact(a7 c).trans r
 ·rw[ek c,Ch,yy,yA,yS,alE]at hd
  exact(bz c).trans ((a7 hd.1).trans ((bz hd.2).trans r))
theorem IX{s t:H}{a:O}{ps:I H}(eg:aW T s=D a)(am:iA T t=D ps)(ew:s∈ps)(fm:s≠t)(aY:ie s=aw)(aP:ie t=aw)(aI:gG a=aw)(c7:a≠6):cy T M S (n+1) s t=D (ae,1):=(rB eg (mD am) fm aY (.inl aP) (Hu _) (by rw[aI];rfl)).trans ((bz c7).trans ((a7 rfl).trans (av am (a7 ew))))
theorem TL{s t:H}{k:O}{b:au}(eg:aW T s=D 15)(eW:aW T t=D k)(fm:s≠t)(aY:ie s=aw)(aP:m2 15 t)(am:gG k=aw)(hd:¬hf k)(c7:k=6->∃ps,iA T t=D ps/\s∉ps)(sI:lV S s t=D (b,0)):
  cy T M S (n+1) s t=D (b,0):=by
 refine(rB eg eW fm aY aP rfl (by rw[am];rfl)).trans ((bz (by decide)).trans ?_)
 by_cases c:k=6
 ·obtain⟨ps,ag,ah⟩:=c7 c
  exact(a7 c).trans (av ag ((bz ah).trans ((a7 rfl).trans sI)))
 ·exact(bz c).trans ((bz hd).trans ((a7 (by decide)).trans ((a7 rfl).trans sI)))
theorem TK{s t:H}{ps:I H}{k:O}{g:H->au}{C:H}(am:iA T s=D ps)(pY:aW T t=D k)(cZ:gG k=aw)(fm:s≠t)(aY:ie s=aw)(aP:m2 6 t)
  (ao:∀p∈ps,∃c,c<=C/\cy T M S n p t=D (g p,c)):∃c,c<=ps.length * C+1/\cy T M S (n+1) s t=D (if M=2 then ps.any g else ps.all g,c):=by
 obtain⟨r,dR,dq,e2⟩:=xI ao
 refine⟨gT r+1,yJ e2,(rB (mD am) pY fm aY aP rfl (by rw[cZ];rfl)).trans ((a7 rfl).trans (av am (av dR ?_)))⟩
 unfold GY
 rw[(ue dq).1,(ue dq).2]
end
theorem gh{α:Type}{l:I α}{x:H}{c:α}(h:l[x]?=D c):x < l.length:=(fj.mp h).1
theorem L9(x:O):∀ {l:I O},l.Pairwise (· < ·)->x∉l->(k2 x l).Pairwise (· < ·)
 |[],_,_=>Rg _ _
 |z::r,h,aA=>by
  obtain⟨ag,ah⟩:=l5.mp h
  unfold k2
  split
  ·rename_i c
   have Qz:x < z:=Int.lt_iff_le_and_ne.mpr ⟨c,fun e=>aA (e▸ .head _)⟩
   exact l5.mpr ⟨fun a aI=>(dj.mp aI).elim (fun e=>e▸Qz) fun aI=>v3 Qz (ag a aI),h⟩
  ·rename_i c
   exact l5.mpr ⟨fun a aI=>((E8 x a r).mp aI).elim (fun e=>e▸tQ.mp c) (ag a),L9 x ah fun q=>aA (.tail _ q)⟩
theorem Pm:∀ {l:I O},l.Nodup->(f7 l).Pairwise (· < ·)
 |[],_=> .nil
 |x::r,h=>L9 x (Pm (hH.mp h).2) fun q=>(hH.mp h).1 ((BK x r).mp q)
theorem Pn:∀ {l eP:I O},l.Pairwise (· < ·)->eP.Pairwise (· < ·)->(∀x,x∈l↔x∈eP)->l=eP
 |[],[],_,_,_=>rfl
 |[],b::eP,_,_,h=>nomatch (h b).mpr (.head _)
 |a::l,[],_,_,h=>nomatch (h a).mp (.head _)
 |a::l,b::eP,ag,ah,h=>by
  rw[l5]at ag ah
  have e:a=b:=by
   rcases dj.mp ((h a).mp (.head _))with q|q
   ·exact q
   rcases dj.mp ((h b).mpr (.head _))with r|r
   ·exact r.symm
   ·exact absurd (v3 (ag.1 b r) (ah.1 a q)) (Hz _)
  subst e
  exact bs (a:: ·) (Pn ag.2 ah.2 fun x=>⟨fun q=>(dj.mp ((h x).mp (.tail _ q))).elim (fun e=>absurd (ag.1 x q) (e▸Hz _)) id,fun q=>(dj.mp ((h x).mpr (.tail _ q))).elim (fun e=>absurd (ah.1 x q) (e▸Hz _)) id⟩)
theorem Tu{ks:I O}{x y:O}:y∈fU ks x↔y∈ks\/y=x:=by
 unfold fU
 split
 ·rename_i h;exact⟨.inl,fun q=>q.elim id fun e=>e▸h⟩
 ·simp
theorem Tv{ks:I O}{x:O}(h:ks.Nodup):(fU ks x).Nodup:=by
 unfold fU
 split
 ·exact h
 ·rename_i aA
  rw[Cp]
  refine⟨h,by simp,fun a aI b ax=> ?_⟩
  simp at ax;subst ax
  exact fun e=>aA (e▸aI)
theorem Ec:∀ {l ks:I O} {y:O},y∈l.foldl fU ks↔y∈ks\/y∈l
 |[],ks,y=>by simp
 |x::l,ks,y=>by
  rw[ajX,Ec,Tu];simp only[dj]
  exact⟨fun h=>by rcases h with(h|h)|h <;>simp[h],fun h=>by rcases h with h|h|h <;>simp[h]⟩
theorem KW:∀ {l ks:I O},ks.Nodup->(l.foldl fU ks).Nodup
 |[],ks,h=>h
 |x::l,ks,h=>by rw[ajX];exact KW (Tv h)
noncomputable def cA(l:I H):I O:=l.map fun(n:H)=>(n:O)
theorem Bg{l:I H}{n:H}:(n:O)∈cA l↔n∈l:=⟨fun h=>by obtain⟨x,ag,ah⟩:=dk.mp h;exact fM ah▸ag,rT⟩
theorem F2{l eP:I H}(h:cA l=cA eP):l=eP:=Rd (fun _ _ e=>fM e)|>.mp h
theorem F3{l:I H}:(cA l).Pairwise (· < ·)↔l.Pairwise (· < ·):=by
 unfold cA;rw[List.pairwise_map];exact⟨fun h=>h.imp fv.mp,fun h=>h.imp fv.mpr⟩
noncomputable def jl(T:ak)(u:H)(l:I H):Prop:=(l=[]/\u=2)\/l=[u]\/(2<=l.length/\T.rows[u]?=D (.ab [.int 6,.ab ((cA l).map .int)]))
theorem jl.le{T aB:ak}(h:T.bJ aB){u:H}{l:I H}(e:jl T u l):jl aB u l:=by
 rcases e with e|e|⟨e,cH⟩
 ·exact .inl e
 ·exact .inr (.inl e)
 ·exact .inr (.inr ⟨e,h.row cH⟩)
theorem mJ{l:I V}(h:l.Nodup){i j:H}{v:V}(hi:l[i]?=D v)(cg:l[j]?=D v):i=j:=by
 obtain⟨a,mi⟩:=fj.mp hi
 obtain⟨b,fz⟩:=fj.mp cg
 have ao:=List.pairwise_iff_getElem.mp h
 rcases HK i j with q|q|q
 ·exact absurd (mi.trans fz.symm) (ao i j a b q)
 ·exact q
 ·exact absurd (fz.trans mi.symm) (ao j i b a q)
theorem jl.one{T:ak}(aZ:T.rows.Nodup){u vM:H}{l:I H}(e:jl T u l)(cH:jl T vM l):u=vM:=by
 rcases e with⟨e,h⟩|e|⟨e,h⟩ <;>rcases cH with⟨f,g⟩|f|⟨f,g⟩
 ·rw[h,g]
 ·rw[e]at f;cases f
 ·rw[e]at f;simp at f
 ·rw[e]at f;cases f
 ·rw[e]at f;simpa using f
 ·rw[e]at f;simp at f
 ·rw[f]at e;simp at e
 ·rw[f]at e;simp at e
 ·exact mJ aZ h g
noncomputable def iS(T:ak)(x:H):Prop:=∃k rest,T.rows[x]?=D (.ab (.int k::rest))/\unmarked (.ab (.int k::rest))/\(x=4\/x=5\/x=6\/x=7\/16<=x)
noncomputable def y4(T:ak)(l:I H):Prop:=(6∉l/\7∉l)\/∀x∈l,∀k rest,T.rows[x]?=D (.ab (.int k::rest))->oT k= -1
theorem iS.le{T aB:ak}(h:T.bJ aB){x:H}(e:iS T x):iS aB x:=by
 obtain⟨k,r,a,b,c⟩:=e;exact⟨k,r,h.row a,b,c⟩
theorem aiY(k:O):oT k=6\/oT k=7\/oT k= -1:=by
 unfold oT;split
 ·simp
 ·split <;>simp
noncomputable def Gm(n:H):au:=decide (n=4)||(decide (n=5)||(decide (n=6)||(decide (n=7)||decide (16<=n))))
theorem iS.b{T:ak}{x:H}(h:iS T x):Gm x=ae:=by
 obtain⟨_,_,_,_,h⟩:=h
 simp only[Gm,QP,yS];exact h
inductive Td(T:ak)(m:H)(σ:St)(pv:V)(ps:I H):Prop
 |mk (af:St) (u:H) (aB:ak) (l:I H) (e:az PP (m+4) 14 [.obj 2,pv] σ=D (.int (u:H),af)) (t:TabAt af aB) (s:bx [3,4] σ af) (le:T.bJ aB) (r:jl aB u l) (hP:l.Pairwise (· < ·)) (mem:∀x,x∈l↔x∈ps)
  (eL:aB=T\/∃l,aB=T.put (.ab [.int 6,.ab ((cA l).map .int)])) (bT:aB=T\/2<=l.length) (len:l.length<=ps.length)
theorem aiH{m:H}{σ:St}{T:ak}{pv:V}{ts:I H}{pf:H->I H}(h:TabAt σ T)(fW:20 < σ.length)(hi:dd (σ++ [.dict .i []]) pv=D (ts.map fun t=> .int (t:H)))
  (aj:∀d,eQ (σ++ [.dict .i []]) pv ((σ++ [Cell.dict .i []]).set σ.length d)=ae) (ao:∀t∈ts,gY T t (cA (pf t))) (hz:(ts.flatMap pf).length < 64)
  (ot:∀x∈ts.flatMap pf,iS T x) (hw:y4 T (ts.flatMap pf)) (bg:T.rows.length < 100000):Td T m σ pv (ts.flatMap pf):=by
 have Ap:(ts.flatMap fun t=>cA (pf t))=cA (ts.flatMap pf):=by
  unfold cA;rw[List.map_flatMap]
 have jX:∀x,x∈(ts.flatMap fun t=>cA (pf t)).foldl fU []->∃n:H,x=n/\n∈ts.flatMap pf:=fun x aA=>by
  rw[Ec,Ap]at aA
  obtain⟨n,ag,ah⟩:=dk.mp (aA.resolve_left nofun)
  exact⟨n,ah.symm,ag⟩
 have no:∀k:H,Gm k=aw->(k:O)∉(ts.flatMap fun t=>cA (pf t)).foldl fU []:=fun k am q=>by
  obtain⟨n,e,aZ⟩:=jX _ q
  have:=(ot n aZ).b
  rw[<-fM e,am]at this;cases this
 have FX:(-1:O)∉(ts.flatMap fun t=>cA (pf t)).foldl fU []:=fun q=>by obtain⟨n,e,aZ⟩:=jX _ q;cases e
 have fl:((ts.flatMap fun t=>cA (pf t)).foldl fU []).length<=(ts.flatMap pf).length:=cp (Eb _ []) (by rw[Ra,g7,Ap,cA,d5];exact dm _)
 obtain⟨af,a9,bE,cG⟩:=aiG (m:=m) (T:=T) (pv:=pv) (ts:=ts) (pf:=fun t=>cA (pf t)) h fW hi aj ao rfl (by rw[Ap,cA,d5];exact fN hz (by decide))
  (no 0 rfl) (no 13 rfl) (no 1 rfl) (no 8 rfl) (no 14 rfl) FX
  (fun x aA=>by
   obtain⟨n,rfl,aZ⟩:=jX x aA
   obtain⟨k,rest,aT,aX,bZ⟩:=ot n aZ
   refine⟨n,k,rest,rfl,aT,aX,fN (gh aT) (fN bg (by decide)),fun q=> ?_⟩
   rcases hw with⟨gk,iI⟩|hw
   ·rcases aiY k with e|e|e
    ·rw[e]at q
     obtain⟨fe,cH,gM⟩:=jX _ q
     exact gk ((fM cH:6=fe)▸gM)
    ·rw[e]at q
     obtain⟨fe,cH,gM⟩:=jX _ q
     exact iI ((fM cH:7=fe)▸gM)
    ·rw[e]at q;exact FX q
   ·rw[hw n aZ k rest aT]at q;exact FX q)
  (c9 fl hz) (fN bg (by decide))
 have hP:=Pm (KW (l:=ts.flatMap fun t=>cA (pf t)) (ks:=[]) .nil)
 have Pf:∀x,x∈f7 ((ts.flatMap fun t=>cA (pf t)).foldl fU [])↔x∈cA (ts.flatMap pf):=fun x=>by
  rw[BK,Ec,Ap];exact⟨fun h=>h.resolve_left nofun,.inr⟩
 have MV:=cp (gb (GR _)) fl
 generalize f7 ((ts.flatMap fun t=>cA (pf t)).foldl fU [])=u at *
 obtain⟨l,rfl⟩:∃l,u=cA l:=by
  refine⟨u.map Int.toNat, ?_⟩
  unfold cA
  rw[iK]
  refine(aj6 u).symm.trans (aj4 fun x aA=> ?_)
  obtain⟨n,ag,ah⟩:=dk.mp ((Pf x).mp aA)
  rw[<-ah];rfl
 have sS:∀x,x∈l↔x∈ts.flatMap pf:=fun x=>by
  rw[<-Bg,Pf,Bg]
 have sU:=F3.mp hP
 rw[cA,d5]at MV
 match l,a9,bE,sS,sU,MV with
 |[],a9,bE,sS,sU,xB=>exact⟨af,2,T,[],a9,bE,cG,ak.bJ.refl _,.inl ⟨rfl,rfl⟩,sU,sS,.inl rfl,.inl rfl,xB⟩
 |[x],a9,bE,sS,sU,xB=>exact⟨af,x,T,[x],a9,bE,cG,ak.bJ.refl _,.inr (.inl rfl),sU,sS,.inl rfl,.inl rfl,xB⟩
 |x::y::r,a9,bE,sS,sU,xB=>
  exact⟨af,T.pos (.ab [.int 6,.ab ((cA (x::y::r)).map .int)]),T.put (.ab [.int 6,.ab ((cA (x::y::r)).map .int)]),x::y::r,a9,bE,cG,T.mL _,.inr (.inr ⟨yH 2 _,T.tw _⟩),sU,sS,.inr ⟨x::y::r,rfl⟩,.inr (yH 2 _),xB⟩
structure ly(σ:St)(A bL:bw)(dh:be):Prop where
 rel:cq σ bL dh
 tidy:jO dh
 mode:dh.mode=3
 quiet:dh.df=aw
 idle:dh.aO=[]
 deep:dh.deep=0
 none:dh.ba=[]
 z3:∀k v,cx dh.bk k=D v->v= .bool aw
 size:(dh.bk.length:O)<=dh.dn
 low:∀i∈ [bL.inst,bL.bY,bL.bk,bL.aO,bL.da,bL.ba],20 < i
 apart:∀i∈ [bL.inst,bL.bY,bL.bk,bL.aO,bL.da,bL.ba],i≠A.aO
inductive wq(A:bw)(R:be)(g:H)(σ:St):Prop
 |no (h:R.twin= .none)
 |yes (bL:bw) (dh:be) (ag:R.twin= .obj bL.inst) (ah:ly σ A bL dh) (aN:0<=dh.dn) (b1:dh.dn+g<=19000)
structure kj(T:ak)(at_:H)(R:be)(g:H):Prop where
 dR:T.rows.length+g<=19000
 dq:T.bounds.length+g<=19000
 e2:T.defaults.length+g<=19000
 gw:T.names.length+g<=19000
 kF:T.decls.length+g<=19000
 ih:at_+g<=19000
 iG:R.ba.length+g<=19000
 jA:R.dn+g<=19000
structure World(xs:I O)(M:O)(T:ak)(S:I (V×V))(A:bw)(R:be)(at_ g:H)(σ:St):Prop where
 inv:iO T M S 0 A R σ
 idle:R.aO=[]
 deep:R.deep=0
 place:A= {inst:=12,bY:=14,bk:=15,aO:=A.aO,road:=17,da:=18,ba:=19}
 ll:A.aO=16\/20 < A.aO
 d:wi σ at_ xs
 len:xs.length<=54
 ik:wq A R g σ
 tell:R.df=ae->M=1
 mode:M=1\/M=2\/M=4
 p1:∀k v,cx S k=D v->∃s t:H,k=cB s t/\s < T.rows.length
 room:kj T at_ R g
theorem aa1{a:H}{l:I H}(h:l.contains a=ae):a∈l:=List.contains_iff_mem.mp h
theorem cq.same{S:I H}{σ af:St}{A:bw}{R:be}(h:cq σ A R)(s:bx S σ af)(aZ:∀i∈ [A.inst,A.bY,A.bk,A.aO,A.da,A.ba],i∉S):cq af A R:=⟨s.get h.inst (aZ _ (.head _)),s.get h.bY (aZ _ (.tail _ (.head _))),s.get h.bk (aZ _ (.tail _ (.tail _ (.head _)))),s.get h.aO (aZ _ (.tail _ (.tail _ (.tail _ (.head _))))),s.get h.da (aZ _ (.tail _ (.tail _ (.tail _ (.tail _ (.head _)))))),s.get h.ba (aZ _ (.tail _ (.tail _ (.tail _ (.tail _ (.tail _ (.head _))))))),h.apart⟩
theorem ly.same{S:I H}{σ af:St}{A A' bL:bw}{dh:be}(h:ly σ A bL dh)(s:bx S σ af)(aZ:∀i∈S,i<=20\/i=A.aO)(aI:A'.aO=A.aO\/σ.length<=A'.aO):ly af A' bL dh:=by
 refine⟨h.rel.same s fun i hi q=>(aZ i q).elim (fun e=>o1.mpr (h.low i hi) e) (h.apart i hi),h.tidy,h.mode,h.quiet,h.idle,h.deep,h.none,h.z3,h.size,h.low,fun i hi q=> ?_⟩
 rcases aI with e|e
 ·exact h.apart i hi (q.trans e)
 ·have r:=h.rel
  have lt:∀i∈ [bL.inst,bL.bY,bL.bk,bL.aO,bL.da,bL.ba],i < σ.length:=cK.mpr ⟨iC r.inst,cK.mpr ⟨iC r.bY,cK.mpr ⟨iC r.bk,cK.mpr ⟨iC r.aO,cK.mpr ⟨iC r.da,cK.mpr ⟨iC r.ba,nofun⟩⟩⟩⟩⟩⟩
  exact v7 _ (gm (lt i hi) (q▸e))
theorem fit{n fe g c B:H}(h:n+(g+c)<=B)(k:fe<=n+c):fe+g<=B:=by omega
theorem KR{l eP:O}{g c:H}(h:l+(g+c:H)<=19000)(k:eP<=l+c):eP+g<=19000:=by omega
theorem h7{n g c B:H}(h:n+(g+c)<=B):n+g<=B:=fit h (cn ..)
theorem wY{l:O}{g c:H}(h:l+(g+c:H)<=19000):l+g<=19000:=KR h (QU (kd c))
theorem uE{n g c:H}(h:n+(g+(c+1))<=19000):n < 19000:=by omega
section
variable {T aB:ak}{A A':bw}{R R':be}{at_ g c:H}{σ af:St}
theorem wq.step{S:I H}(h:wq A R (g+c) σ)(s:bx S σ af)(aZ:∀i∈S,i<=20\/i=A.aO)(aP:R'.twin=R.twin)(aI:A'.aO=A.aO\/σ.length<=A'.aO):wq A' R' g af:=
 match h with
 |.no q=> .no (aP.trans q)
 |.yes bL dh a6 bl cF eV=> .yes bL dh (aP.trans a6) (bl.same s aZ aI) cF (wY eV)
theorem kj.step(h:kj T at_ R (g+c))(ag:aB.rows.length<=T.rows.length+c)(ah:aB.bounds.length<=T.bounds.length+c)(aN:aB.defaults.length<=T.defaults.length+c)(b1:aB.names.length<=T.names.length+c)(ef:aB.decls.length<=T.decls.length+c):kj aB at_ R g:=⟨fit h.dR ag,fit h.dq ah,fit h.e2 aN,fit h.gw b1,fit h.kF ef,h7 h.ih,h7 h.iG,wY h.jA⟩
theorem kj.rel(h:kj T at_ R (g+c))(hy:R'.ba.length<=R.ba.length+c)(iX:R'.dn<=R.dn+c):kj T at_ R' g:=⟨h7 h.dR,h7 h.dq,h7 h.e2,h7 h.gw,h7 h.kF,h7 h.ih,fit h.iG hy,KR h.jA iX⟩
theorem kj.less{g':H}(h:kj T at_ R g)(bR:g'<=g):kj T at_ R g':=by
 obtain⟨c,rfl⟩:=akj bR
 exact⟨h7 h.dR,h7 h.dq,h7 h.e2,h7 h.gw,h7 h.kF,h7 h.ih,h7 h.iG,wY h.jA⟩
theorem kj.take(h:kj T at_ R (g+1)):kj T (at_+1) R g:=⟨h7 h.dR,h7 h.dq,h7 h.e2,h7 h.gw,h7 h.kF,fit h.ih (dm _),h7 h.iG,wY h.jA⟩
end
noncomputable abbrev fc:I H:=[1,2,3,4,5,6,7,8]
section
variable {xs:I O}{M:O}{T aB:ak}{S:I (V×V)}{A:bw}{R:be}{at_ g c m:H}{σ af:St}
theorem World.less{g':H}(h:World xs M T S A R at_ g σ)(bR:g'<=g):World xs M T S A R at_ g' σ:=by
 obtain⟨c,rfl⟩:=akj bR
 exact{h with ik:=h.ik.step (bx.refl [] σ) nofun rfl (.inl rfl),room:=h.room.less bR}
theorem World.inst(h:World xs M T S A R at_ g σ):A.inst=12/\A.bY=14/\A.bk=15/\A.da=18/\A.ba=19:=by
 have p:=h.place
 rw[p];exact⟨rfl,rfl,rfl,rfl,rfl⟩
theorem World.places(h:World xs M T S A R at_ g σ):∀i∈ [A.inst,A.bY,A.bk,A.aO,A.da,A.ba],11 < i/\i≠13/\i≠20:=by
 obtain⟨hn,gR,kE,oH,nH⟩:=h.inst
 have t:11 < A.aO/\A.aO≠13/\A.aO≠20:=h.ll.elim (fun e=>by rw[e];decide) fun e=>⟨fN (by decide) e,rW (fN (by decide) e),rW e⟩
 rw[hn,gR,kE,oH,nH]
 exact cK.mpr ⟨by decide,cK.mpr ⟨by decide,cK.mpr ⟨by decide,cK.mpr ⟨t,by decide⟩⟩⟩⟩
theorem World.low(h:World xs M T S A R at_ g σ):∀i∈ [A.inst,A.bY,A.bk,A.aO,A.da,A.ba],i∉fc:=fun i hi q=>by
 have:∀i∈fc,i<=11:=by decide
 exact o1.mpr (h.places i hi).1 (this i q)
theorem World.ny(h:World xs M T S A R at_ g σ):20 < σ.length:=iC h.inv.rules.2
theorem pc.grow{M:O}{S iu K:I (V×V)}(h:pc T M S K)(le:T.bJ aB)(aY:gW S iu):pc aB M iu K:=fun k v q=>by
 obtain⟨s,t,b,n,c,aT,aX,bZ⟩:=h k v q
 exact⟨s,t,b,n,c,aT,aX,zj le aY (dm n) s t _ bZ⟩
theorem yg{l:I H}(h:(l.all fun i=>fc.contains i)=ae):∀i∈l,i∈fc:=fun i hi=>aa1 (ke.mp h i hi)
theorem M3{A:bw}:∀i∈fc,i<=20\/i=A.aO:=fun i hi=> .inl ((by decide:∀i∈fc,i<=20) i hi)
structure Iy(T aB:ak)(c:H):Prop where
 s1:aB.rows.length<=T.rows.length+c
 s2:aB.bounds.length<=T.bounds.length+c
 s3:aB.defaults.length<=T.defaults.length+c
 s4:aB.names.length<=T.names.length+c
 s5:aB.decls.length<=T.decls.length+c
theorem ak.bJ.len(h:T.bJ aB):T.rows.length<=aB.rows.length:=by
 obtain⟨ex,he⟩:=h.rows
 rw[he,fw];exact cn ..
theorem World.grow(h:World xs M T S A R at_ (g+c) σ)(t:TabAt af aB)(le:T.bJ aB)(a8:cP aB)(s:bx [2,3,4,5,6,7,8] σ af)(kH:Iy T aB c):World xs M aB S A R at_ g af:=by
 have i:=h.inv
 have bc:bx fc σ af:=s.dC (yg rfl)
 exact⟨⟨a8,t,s.get i.host (by decide),⟨s.get i.rules.1 (by decide),s.get i.rules.2 (by decide)⟩,i.rel.same bc h.low,i.tidy,i.mode,i.bk.grow le (gW.refl _),i.lW,by rw[h.idle];exact nofun,i.da,i.size,i.e8⟩,h.idle,h.deep,h.place,h.ll,⟨s.get h.d.eT (by decide),s.get h.d.eL (by decide)⟩,h.len,h.ik.step bc M3 rfl (.inl rfl),h.tell,h.mode,fun k v q=>
  let⟨a,b,aT,aX⟩:=h.p1 k v q;⟨a,b,aT,gm aX le.len⟩,h.room.step kH.s1 kH.s2 kH.s3 kH.s4 kH.s5⟩
noncomputable def wn(r:V):Prop:=r.isTup=ae/\r.pure=ae/\∃k rest,r= .ab (.int k::rest)/\(k≠2->k≠8->unmarked (.ab (.int k::rest)))/\(k=3->∃x i,rest=[x,i])
noncomputable def iT(r:V):Prop:=r.isTup=ae/\r.pure=ae/\∃k rest,r= .ab (.int k::rest)/\(k≠2->k≠8->unmarked (.ab (.int k::rest)))/\(k=3->∃x i,rest=[x,i])/\k≠10/\k≠15
noncomputable def y0(T:ak)(r:V):Prop:=(∀p:H,r= .ab [.int 10,.int p]->p < T.bounds.length)/\(∀s p:H,r= .ab [.int 15,.int s,.int p]->p < T.rows.length)
theorem uN{k k':O}{r f3:I V}(h:V.ab (.int k::r)=V.ab (.int k'::f3)):k=k'/\r=f3:=by cases h;exact⟨rfl,rfl⟩
theorem iT.b{r:V}(h:iT r):wn r:=by
 obtain⟨a,b,k,rest,c,d,e,_⟩:=h;exact⟨a,b,k,rest,c,d,e⟩
theorem iT.fit{r:V}(h:iT r)(T:ak):y0 T r:=by
 obtain⟨a,b,k,rest,rfl,d,e,acL,acN⟩:=h
 exact⟨fun p q=>absurd (uN q).1 acL,fun s p q=>absurd (uN q).1 acN⟩
theorem Ql{k:O}{rest:I V}(h:k∉ [(2:O),3,4,5,8])(aj:rest.length < 50):unmarked (.ab (.int k::rest)):=
 have no:∀x:O,x∈ [(2:O),3,4,5,8]->k≠x:=fun x aA e=>h (e▸aA)
 ⟨k,rest,rfl,no 5 (by decide),fun q=>by rcases q with q|q|q|q;exact absurd q (no 2 (by decide));exact absurd q (no 3 (by decide));exact absurd q (no 4 (by decide));exact absurd q (no 8 (by decide)),aj⟩
theorem OL{k:O}{rest:I V}(ao:(V.ab (.int k::rest)).pure=ae)(h:k∉ [(2:O),3,4,5,8,10,15])(aj:rest.length < 50):iT (.ab (.int k::rest)):=
 have no:∀x:O,x∈ [(2:O),3,4,5,8,10,15]->k≠x:=fun x aA e=>h (e▸aA)
 ⟨rfl,ao,k,rest,rfl,fun _ _=>Ql (fun q=>h ((by decide:∀x∈ [(2:O),3,4,5,8],x∈ [(2:O),3,4,5,8,10,15]) k q)) aj,fun q=>absurd q (no 3 (by decide)),no 10 (by decide),no 15 (by decide)⟩
theorem BJ{l:I V}{r x:V}{t:H}(e:(l++ [r])[t]?=D x):l[t]?=D x\/x=r:=by
 rcases qi t l.length with h|h
 ·exact .inl ((jJ h).symm.trans e)
 ·obtain⟨q,e⟩:=fj.mp ((lq h).symm.trans e)
  exact .inr (e.symm.trans (ajZ q))
theorem cP.put(h:cP T){r:V}(bg:wn r)(bH:y0 T r)(aj:T.rows.length+1 < 100000):cP (T.put r):=by
 obtain⟨_,_,k,rest,rfl,ag,ah⟩:=bg
 unfold ak.put
 split
 ·exact h
 have AR:15 < T.rows.length:=gh ((h.first 15 (by decide)).trans (rfl:h6[15]?=D (V.ab [.int 2,.int 1,.int 1])))
 have cL:(T.rows++ [V.ab (.int k::rest)]).length=T.rows.length+1:=fw ..
 refine⟨fun i hi=>(jJ (gm hi AR)).trans (h.first i hi),fun t k' Gw e=> ?_,fun t Gw e=> ?_,by rw[cL];exact aj,fun x p e=> ?_,fun x s p e=> ?_⟩
 ·rcases BJ e with e|e
  ·exact h.good _ _ _ e
  ·obtain⟨rfl,rfl⟩:=uN e;exact ag
 ·rcases BJ e with e|e
  ·exact h.texts _ _ e
  ·obtain⟨rfl,rfl⟩:=uN e;exact ah rfl
 ·exact(BJ e).elim (h.Bp _ _) fun e=>bH.1 p e.symm
 ·show p < (T.rows++ [V.ab (.int k::rest)]).length
  rw[cL]
  exact nY ((BJ e).elim (h.idxs _ _ _) fun e=>bH.2 s p e.symm)
theorem ak.vt(T:ak)(r:V):(T.put r).bounds=T.bounds/\(T.put r).defaults=T.defaults/\(T.put r).names=T.names/\(T.put r).decls=T.decls:=by
 unfold ak.put;split <;>exact⟨rfl,rfl,rfl,rfl⟩
theorem ak.Ow(T:ak)(r:V):Iy T (T.put r) 1:=by
 obtain⟨a,b,c,d⟩:=T.vt r
 exact⟨T.Bt r,by rw[a];exact eJ _,by rw[b];exact eJ _,by rw[c];exact eJ _,by rw[d];exact eJ _⟩
theorem kj.put{k:H}(h:kj T at_ R (g+(k+1))):T.rows.length < a4/\T.rows.length+1 < 100000:=⟨fN (uE h.dR) (by decide),c9 (uE h.dR) (by decide)⟩
inductive SP(xs:I O)(M:O)(T:ak)(S:I (V×V))(A:bw)(R:be)(at_ g m:H)(σ:St)(r:V):Prop
 |mk (af:St) (aB:ak) (t:H) (e:az PP (m+1) 3 [.obj 2,r] σ=D (.int (t:H),af)) (w:World xs M aB S A R at_ g af) (l:T.bJ aB) (h:aB.rows[t]?=D r) (p:aB=T.put r) (s:bx fc σ af)
theorem World.ru(h:World xs M T S A R at_ (g+1) σ){r:V}(bg:wn r)(bH:y0 T r):az PP (m+1) 3 [.obj 2,r] σ=D (.int (T.pos r:H),gi T r σ)/\World xs M (T.put r) S A R at_ g (gi T r σ)/\bx [3,4] σ (gi T r σ):=by
 obtain⟨a1,c1⟩:=h.inv.tab.put bg.1 bg.2.1
 exact⟨rv h.inv.tab bg.1 bg.2.1 (h.room.put (k:=0)).1,h.grow a1 (T.mL r) (h.inv.a8.put bg bH (h.room.put (k:=0)).2) (c1.dC (by decide)) (T.Ow r),c1⟩
theorem World.put(h:World xs M T S A R at_ (g+1) σ){r:V}(bg:iT r):SP xs M T S A R at_ g m σ r:=
 have ⟨e,w,s⟩:=h.ru bg.b (bg.fit T)
 ⟨_,_,_,e,w,T.mL r,T.tw r,rfl,s.dC (yg rfl)⟩
theorem cP.param(h:cP T){name dflt:V}{b:O}:cP (T.param name b dflt):=⟨h.first,h.good,h.texts,h.len,fun x p e=>by have:=h.Bp x p e;unfold ak.param;rw[fw];exact Nat.lt_add_right _ this,h.idxs⟩
theorem afi(p:H):wn (.ab [.int 10,.int p]):=⟨rfl,rfl,10,[.int p],rfl,fun _ _=>Ql (by decide) (by show 1 < 50;decide),fun q=>absurd q (by decide)⟩
inductive SO(xs:I O)(M:O)(T:ak)(S:I (V×V))(A:bw)(R:be)(at_ g m:H)(σ:St)(name:V)(b:O)(dflt:V):Prop
 |mk (af:St) (aB:ak) (t:H) (e:az PP (m+2) 6 [.obj 2,name,.int b,dflt] σ=D (.int (t:H),af)) (w:World xs M aB S A R at_ g af) (l:T.bJ aB)
  (r:aB.rows[t]?=D (.ab [.int 10,.int (T.bounds.length:H)])) (h:aB.bounds[T.bounds.length]?=D b) (p:aB=(T.param name b dflt).put (.ab [.int 10,.int (T.bounds.length:H)])) (s:bx fc σ af)
theorem jg{α:Type}{l:I α}{x:α}:(l++ [x]).length=l.length+1:=fw ..
theorem World.param(h:World xs M T S A R at_ (g+1) σ){name dflt:V}{b:O}:SO xs M T S A R at_ g m σ name b dflt:=by
 have lt:∀ {n},n+(g+1)<=19000->n < a4:=fun h=>fN (uE (c:=0) h) (by decide)
 have p:=ac2 (m:=m) (name:=name) (dflt:=dflt) (bound:=b) h.inv.tab (lt h.room.dR) (lt h.room.dq) (lt h.room.e2) (lt h.room.gw)
 obtain⟨a1,c1⟩:=h.inv.tab.param (name:=name) (bound:=b) (dflt:=dflt)
 obtain⟨d7,dM⟩:=a1.put (row:= .ab [.int 10,.int (T.bounds.length:H)]) rfl rfl
 have mG:T.bJ (T.param name b dflt):=⟨⟨[],(fi _).symm⟩,⟨[b],rfl⟩,⟨[],(fi _).symm⟩⟩
 have sP:=(T.param name b dflt).mL (.ab [.int 10,.int (T.bounds.length:H)])
 obtain⟨gx,hF,yv,vV⟩:=(T.param name b dflt).vt (.ab [.int 10,.int (T.bounds.length:H)])
 have s:bx [3,4,6,7,8] σ (gi (T.param name b dflt) (.ab [.int 10,.int (T.bounds.length:H)]) (pW T name b dflt σ)):=(c1.dC (by decide)).trans (dM.dC (by decide))
 refine⟨_,_,_,p,h.grow d7 (mG.trans sP) (h.inv.a8.param.put (afi _) ⟨fun p q=> ?_,fun s p q=>absurd (uN q).1 (by decide)⟩ (h.room.put (k:=0)).2) (s.dC (by decide)) ⟨(T.param name b dflt).Bt _, ?_, ?_, ?_,by rw[vV];exact eJ _⟩,mG.trans sP,ak.tw _ _, ?_,rfl,s.dC (yg rfl)⟩
 ·cases(uN q).2
  show T.bounds.length < (T.bounds++ [b]).length
  rw[jg];exact rV _
 ·rw[gx];exact gb jg
 ·rw[hF];exact gb jg
 ·rw[yv];exact gb jg
 ·refine sP.bound ((lq (dm _)).trans ?_)
  rw[o2];rfl
inductive Si(xs:I O)(M:O)(T:ak)(S:I (V×V))(A:bw)(R:be)(at_ g m:H)(σ:St)(b:H):Prop
 |mk (af:St) (aB:ak) (t dy:H) (e:az PP (m+3) 77 [.obj 2,.int b] σ=D (.int (t:H),af)) (w:World xs M aB S A R at_ g af) (l:T.bJ aB)
  (r:aB.rows[t]?=D (oJ T)) (d:aB.decls[T.decls.length]?=D (dy,(b:O))) (p:aB=(T.decl σ.length b).put (oJ T)) (s:bx fc σ af)
theorem World.declared(h:World xs M T S A R at_ (g+1) σ){b:H}:Si xs M T S A R at_ g m σ b:=by
 have lt:∀ {n},n+(g+1)<=19000->n+1 < a4:=fun h=>c9 (uE (c:=0) h) (by decide)
 have p:=WL (m:=m) (b:=b) h.inv.tab h.ny (lt h.room.kF) (qh (lt h.room.dR))
 obtain⟨a1,c1⟩:=h.inv.tab.declared (b:=b) h.ny
 obtain⟨d7,dM⟩:=a1.put (row:=oJ T) rfl rfl
 have mG:T.bJ (T.decl σ.length b):=⟨⟨[],(fi _).symm⟩,⟨[],(fi _).symm⟩,⟨[(σ.length,(b:O))],rfl⟩⟩
 have sP:=(T.decl σ.length b).mL (oJ T)
 obtain⟨gx,hF,yv,vV⟩:=(T.decl σ.length b).vt (oJ T)
 have iH:cP (T.decl σ.length b):=⟨h.inv.a8.first,h.inv.a8.good,h.inv.a8.texts,h.inv.a8.len,h.inv.a8.Bp,h.inv.a8.idxs⟩
 have ok:iT (oJ T):=OL rfl (by decide) (by show 2 < 50;decide)
 have s:bx [3,4,5] σ (gi (T.decl σ.length b) (oJ T) (sj σ T b)):=(c1.dC (by decide)).trans (dM.dC (by decide))
 refine⟨_,_,_,σ.length,p,h.grow d7 (mG.trans sP) (iH.put ok.b (ok.fit _) (h.room.put (k:=0)).2) (s.dC (by decide)) ⟨(T.decl σ.length b).Bt _,by rw[gx];exact eJ _,by rw[hF];exact eJ _,by rw[yv];exact eJ _,by rw[vV];exact gb jg⟩,mG.trans sP,ak.tw _ _,sP.decl ((lq (dm _)).trans (by rw[o2];rfl)),rfl,s.dC (yg rfl)⟩
inductive S7(xs:I O)(M:O)(T:ak)(S:I (V×V))(A:bw)(R:be)(at_ g m:H)(σ:St)(n:O):Prop
 |mk (af:St) (x:O) (h0:0<=x) (ag:x < n) (e:az PP (m+1) 75 [.obj 1,.int n] σ=D (.int x,af)) (w:World xs M T S A R (at_+1) g af) (s:bx fc σ af)
theorem World.take(h:World xs M T S A R at_ (g+1) σ){n:O}(aZ:0 < n):S7 xs M T S A R at_ g m σ n:=by
 obtain⟨x,ag,ah,e⟩:=PN (m:=m) h.d h.len (fN (uE (c:=0) h.room.ih) (by decide)) aZ
 have s:bx [1] σ (σ.set 1 (.list [.int (at_+1:H),.obj 0])):=bx.set (.head _)
 have bc:bx fc σ (σ.set 1 (.list [.int (at_+1:H),.obj 0])):=s.dC (yg rfl)
 have i:=h.inv
 exact⟨_,x,ag,ah,e,⟨⟨i.a8,i.tab.same s (fun i q=> .inl (by rw[dt.mp q];decide)),s.get i.host (by decide),⟨s.get i.rules.1 (by decide),s.get i.rules.2 (by decide)⟩,i.rel.same bc h.low,i.tidy,i.mode,i.bk,i.lW,i.aO,i.da,i.size,i.e8⟩,h.idle,h.deep,h.place,h.ll,⟨s.get h.d.eT (by decide),h9 h.d.eL⟩,h.len,h.ik.step bc M3 rfl (.inl rfl),h.tell,h.mode,h.p1,h.room.take⟩,bc⟩
theorem World.more(h:World xs M T S A R at_ g σ)(Es:St):World xs M T S A R at_ g (σ++Es):=World.grow (c:=0) h h.inv.tab.more (ak.bJ.refl T) h.inv.a8 bx.append ⟨dm _,dm _,dm _,dm _,dm _⟩
end
structure el(R R':be):Prop where
 ba:R'.ba=R.ba
 df:R'.df=R.df
 at_:R'.at_=R.at_
theorem el.refl(R:be):el R R:=⟨rfl,rfl,rfl⟩
theorem el.trans{R cv b2:be}(a:el R cv)(b:el cv b2):el R b2:=⟨b.ba.trans a.ba,b.df.trans a.df,b.at_.trans a.at_⟩
noncomputable def told(R:be)(cs:I O):I V:=if R.df then cs.map fun c=> .ab [.int c,.int R.at_]else []
theorem aih(R:be)(c:O):(told R [c]).length<=1:=by
 unfold told;split
 ·exact dm _
 ·exact kL _
section
variable {xs:I O}{M:O}{T aB:ak}{S:I (V×V)}{A A':bw}{R R':be}{at_ g c m n:H}{σ af:St}
theorem World.og(h:World xs M T S A R at_ g σ):∀i∈ [A.inst,A.bY,A.bk,A.aO,A.ba],11 < i/\(i<=20\/i=A.aO):=by
 obtain⟨hn,gR,kE,oH,nH⟩:=h.inst
 rw[hn,gR,kE,nH]
 have c:∀n,(decide (11 < n) && decide (n<=20))=ae->11 < n/\(n<=20\/n=A.aO):=fun n h=>have ⟨a,b⟩:=ei.mp h;⟨gy a,.inl (gy b)⟩
 exact cK.mpr ⟨c 12 rfl,cK.mpr ⟨c 14 rfl,cK.mpr ⟨c 15 rfl,cK.mpr ⟨⟨(h.places _ (.tail _ (.tail _ (.tail _ (.head _))))).1,.inr rfl⟩,cK.mpr ⟨c 19 rfl,nofun⟩⟩⟩⟩⟩
theorem World.OD(h:World xs M T S A R at_ (g+c) σ)(Au:iO T M S 0 A' R' af)(s:bx [A.inst,A.bY,A.bk,A.aO,A.ba] σ af)(idle:R'.aO=[])(deep:R'.deep=0)(place:A'= {A with aO:=A'.aO})(cN:A'.aO=A.aO\/σ.length<=A'.aO)
  (ik:R'.twin=R.twin) (bO:R'.df=R.df) (k6:R'.ba.length<=R.ba.length+c) (cL:R'.dn<=R.dn+c):World xs M T S A' R' at_ g af:=by
 have f:=h.og
 have no:∀j,j < 12->j∉ [A.inst,A.bY,A.bk,A.aO,A.ba]:=fun j cg q=>o1.mpr (f j q).1 (o0 cg)
 exact⟨Au,idle,deep,by rw[place,h.place],cN.elim (fun e=>e▸h.ll) fun e=> .inr (gm h.ny e),⟨s.get h.d.eT (no 0 (by decide)),s.get h.d.eL (no 1 (by decide))⟩,h.len,h.ik.step s (fun i hi=>(f i hi).2) ik cN,bO▸h.tell,h.mode,h.p1,h.room.rel k6 cL⟩
noncomputable def be.say(R:be)(l:I O):be:= {R with ba:=R.ba++told R l}
theorem World.note(h:World xs M T S A R at_ (g+1) σ)(c:O):∃af,az PP (m+2) 33 [.obj 12,.int c] σ=D (.none,af)/\World xs M T S A (R.say [c]) at_ g af:=by
 have i:=h.inv
 have nl:=uE (c:=0) h.room.iG
 obtain⟨af,e,bg,s⟩:=ado (m:=m) i.rel (fN nl (by decide)) c
 have en:(if R.df=ae then R.ba++ [V.ab [.int c,.int R.at_]]else R.ba)=R.ba++told R [c]:=by
  unfold told;split
  ·rfl
  ·rw[fi]
 rw[en]at bg
 rw[h.inst.1]at e
 have bc:bx [A.inst,A.bY,A.bk,A.aO,A.ba] σ af:=s.dC (k9 (.tail _ (.tail _ (.tail _ (.tail _ (.head _))))))
 obtain⟨fK,eu,eG⟩:=i.rC bc
 have jd:(R.ba++told R [c]).length<=R.ba.length+1:=by rw[fw];exact qg (aih R c) _
 exact⟨af,e,h.OD ⟨i.a8,fK,eu,eG,bg,i.tidy.NK,i.mode,i.bk,i.lW,i.aO,c9 jd (c9 nl (by decide)),i.size,i.e8⟩ bc h.idle h.deep rfl (.inl rfl) rfl rfl jd (QU (by decide))⟩
inductive Sa(xs:I O)(M:O)(T:ak)(S:I (V×V))(A:bw)(R:be)(at_ g m n:H)(σ:St)(s t:H)(b:au):Prop
 |mk (af:St) (A':bw) (R':be) (e:az PP (m+8 * n+7) 32 [.obj 12,.int s,.int t] σ=D (.bool b,af)) (w:World xs M T S A' R' at_ g af) (k:el R R')
theorem TY{l:O}{g c jn:H}(h:l+(g+c:H)<=19000)(aE:jn<=c):l+jn<=19000:=by omega
theorem World.ask(h:World xs M T S A R at_ (g+c) σ){s t:H}{b:au}{jn:H}(he:cy T M S n s t=D (b,jn))(aE:jn<=c)(aZ:n<=50):Sa xs M T S A R at_ g m n σ s t b:=by
 have i:=h.inv
 have e9:M≠3:=by rcases h.mode with e|e|e <;>rw[e] <;>decide
 obtain⟨af,A',R',e,j,ed,lk⟩:=Di e9 n m σ A R s t (b,jn) {i with aO:=by rw[h.idle];exact nofun} he (TY h.room.jA aE) (by rw[h.deep,QX];exact oW.mpr aZ)
 have cH:=Dj (m:=m+8 * n+5) i.rel e
 rw[h.inst.1]at cH
 exact⟨af,A',R',cH,h.OD (j.less (kL n)) ed.same (ed.empty h.idle) (ed.deep.trans h.deep) ed.place ed.ll ed.twin ed.df (by rw[ed.ba];exact cn ..) (v2 lk (QS (oW.mpr aE) _)),ed.ba,ed.df,ed.at_⟩
noncomputable def t8(σ:St)(pv:V)(vs:I V):Prop:=pv= .ab vs\/pv= .lst vs\/∃d,pv= .obj d/\σ[d]?=D (.list vs)
theorem t8.get{pv:V}{vs:I V}(h:t8 σ pv vs)(Es:St):dd (σ++Es) pv=D vs:=by
 rcases h with rfl|rfl|⟨d,rfl,h⟩
 ·rfl
 ·rfl
 ·exact sM (e4 h)
theorem t8.live{pv:V}{vs:I V}(h:t8 σ pv vs)(d:Cell):eQ (σ++ [.dict .i []]) pv ((σ++ [Cell.dict .i []]).set σ.length d)=ae:=by
 rcases h with rfl|rfl|⟨k,rfl,h⟩
 ·rfl
 ·rfl
 ·exact MZ (e4 h) (by rw[p2];exact e4 h)
theorem OK(l:I H):iT (.ab [.int 6,.ab ((cA l).map .int)]):=OL (OM rfl) (by decide) (by show 1 < 50;decide)
inductive IJ(xs:I O)(M:O)(T:ak)(S:I (V×V))(A:bw)(R:be)(at_ g m:H)(σ:St)(pv:V)(ps:I H):Prop
 |mk (af:St) (u:H) (aB:ak) (l:I H) (e:az PP (m+4) 14 [.obj 2,pv] σ=D (.int (u:H),af)) (w:World xs M aB S A R at_ g af) (le:T.bJ aB) (r:jl aB u l) (hP:l.Pairwise (· < ·)) (mem:∀x,x∈l↔x∈ps) (s:bx [3,4] σ af)
  (bounds:aB.bounds=T.bounds) (decls:aB.decls=T.decls) (len:l.length<=ps.length) (c:aB=T\/2<=l.length)
theorem World.union(h:World xs M T S A R at_ (g+1) σ){pv:V}{ts:I H}{pf:H->I H}(hi:t8 σ pv (ts.map fun t=> .int (t:H)))(ao:∀t∈ts,gY T t (cA (pf t)))(hz:(ts.flatMap pf).length < 64)(ot:∀x∈ts.flatMap pf,iS T x)(hw:y4 T (ts.flatMap pf)):
  IJ xs M T S A R at_ g m σ pv (ts.flatMap pf):=by
 have OO:=h.room.put (k:=0)
 obtain⟨af,u,aB,l,a9,bE,cG,eH,eY,gk,iI,oS,nU,mP⟩:=aiH (m:=m) h.inv.tab h.ny (hi.get _) hi.live ao hz ot hw (qh OO.2)
 rcases oS with rfl|⟨eP,rfl⟩
 ·exact⟨af,u,aB,l,a9,(h.less (eJ g)).grow (c:=0) bE eH h.inv.a8 (cG.dC (by decide)) ⟨dm _,dm _,dm _,dm _,dm _⟩,eH,eY,gk,iI,cG,rfl,rfl,mP,nU⟩
 ·exact⟨af,u,_,l,a9,h.grow bE eH (h.inv.a8.put (OK eP).b ((OK eP).fit T) OO.2) (cG.dC (by decide)) (ak.Ow _ _),eH,eY,gk,iI,cG,(ak.vt _ _).1,(ak.vt _ _).2.2.2,mP,nU⟩
end
section
variable {m:H}{σ:St}{C:Cl}
theorem adr{aF:St}:az PP (m+1) 0 [.obj aF.length] (aF++ [.inst 0 []])=D (.none,aF++ [.inst 0 [(0,.obj (aF.length+1))],.list []]):=k0 (F:=z1) (J:=[D (.obj aF.length)]) (bt:=[D (.obj aF.length)]) (fl:= .next) rfl rfl (fb rfl xn rfl rfl) rfl
theorem ads{J:Loc}{fs:I (H×V)}{g:I Cell}:aG PP (az PP (m+1)) (.new 0 []) J (σ++ .inst 5 fs::g)=D (.obj (σ.length+(g.length+1)),σ++ .inst 5 fs::(g++ [.inst 0 [(0,.obj (σ.length+(g.length+1)+1))],.list []])):=by
 have h:=jB PP (az PP (m+1)) (.new 0 []) J (σ++ .inst 5 fs::g) (adr (m:=m))
 rw[fw,hR]at h
 exact h
noncomputable def Gv(n:H)(host:V)(mode:O):I (H×V):=[(33,host),(34,.int mode),(35,.obj (n+1)),(36,.obj (n+2)),(37,.obj (n+3)),(38,.obj (n+4)),(39,.obj (n+5)),(29,.int 0),(40,.int 0),(41,.obj (n+6)),(42,.bool ae),(43,.none),(44,.str ⟨#[]⟩),(23,.int 0)]
noncomputable def Gu(n:H):I Cell:=[.dict .i [],.dict .t [],.dict .t [],.list [],.list [],.inst 0 [(0,.obj (n+7))],.list []]
theorem OE{host:V}{mode:O}:az PP (m+2) 31 [.obj σ.length,host,.int mode] (σ++ [.inst 5 []])=D (.none,σ++ .inst 5 (Gv σ.length host mode)::Gu σ.length):=k0 (F:=KH) (J:=[D (.obj σ.length),D host,D (.int mode)]) (bt:=[D (.obj σ.length),D host,D (.int mode)]) (fl:= .next) rfl rfl
  (fb rfl rfl (by kernel_rfl) (fb rfl rfl (by kernel_rfl) (fb rfl E6 (by kernel_rfl) (fb rfl E6 (by kernel_rfl) (fb rfl E6 (by kernel_rfl) (fb rfl xn (by kernel_rfl) (fb rfl xn (by kernel_rfl) (fb rfl rfl (by kernel_rfl) (fb rfl rfl (by kernel_rfl) (fb rfl ads (by kernel_rfl) (fb rfl rfl (by kernel_rfl) (fb rfl rfl (by kernel_rfl) (fb rfl rfl (by kernel_rfl) (fb rfl rfl (by kernel_rfl) (by kernel_rfl))))))))))))))) rfl
noncomputable def nP(n:H):bw:= {inst:=n,bY:=n+2,bk:=n+3,aO:=n+4,road:=n+5,da:=n+6,ba:=n+7}
noncomputable def yq:be:= {mode:=3,deep:=0,dn:=0,df:=aw,twin:= .none,at_:=0,bY:=[],bk:=[],aO:=[],ba:=[]}
noncomputable def rJ(σ:St):St:=σ++ .inst 5 (g0 (nP σ.length) yq)::Gu σ.length
theorem qV{c:Cell}{g:I Cell}:(σ++c::g)[σ.length]?=D c:=by rw[lq (dm _),o2];rfl
theorem GL{c d:Cell}{g:I Cell}:(σ++c::g).set σ.length d=σ++d::g:=by rw[v6 _ _ (dm _),o2];rfl
theorem agF{A:bw}{R:be}(h:cq σ A R):az PP (m+3) 38 [.obj A.inst,.int 3] σ=D (.obj σ.length,rJ σ):=by
 have go:=run (m+2) 38 [.obj A.inst,.int 3] σ h.inst (OE (m:=m)) (e4 h.inst) qV (by kernel_rfl) (h9 qV) (by kernel_rfl)
 rw[GL,GL]at go
 exact go
theorem aix{A:bw}(qZ:20 < σ.length)(aI:A.aO < σ.length):ly (rJ σ) A (nP σ.length) yq:=by
 have g:∀j,(rJ σ)[σ.length+j]?=(Cell.inst 5 (g0 (nP σ.length) yq)::Gu σ.length)[j]?:=fun j=>by
  unfold rJ;rw[lq (cn ..),tT]
 have ge:∀i∈ [(nP σ.length).inst,(nP σ.length).bY,(nP σ.length).bk,(nP σ.length).aO,(nP σ.length).da,(nP σ.length).ba],σ.length<=i:=cK.mpr ⟨dm _,cK.mpr ⟨cn ..,cK.mpr ⟨cn ..,cK.mpr ⟨cn ..,cK.mpr ⟨cn ..,cK.mpr ⟨cn ..,nofun⟩⟩⟩⟩⟩⟩
 have cj:([0,2,3,4,6,7].map (σ.length+ ·)).Nodup:=(by decide:[0,2,3,4,6,7].Nodup).map _ fun a b h e=>h (Nat.add_left_cancel e)
 exact⟨⟨g 0,g 2,g 3,g 4,g 6,g 7,cj⟩,⟨rfl,.nil,nofun⟩,rfl,rfl,rfl,rfl,rfl,nofun,n4 _,fun i hi=>gm qZ (ge i hi),fun i hi=>rW (gm aI (ge i hi))⟩
end
section
variable {xs:I O}{M:O}{T aB:ak}{S:I (V×V)}{A:bw}{R:be}{at_ g c m n:H}{σ af:St}
theorem World.dJ(h:World xs M T S A R at_ g σ):σ[12]?=D (.inst 5 (g0 A R)):=by
 have ew:=h.inv.rel.inst
 rw[h.inst.1]at ew
 exact ew
theorem ae9{v:V}(q:R.twin=v):g0 A R=g0 A {R with twin:=v}:=by rw[<-q]
inductive Ta(xs:I O)(M:O)(T:ak)(S:I (V×V))(A:bw)(R:be)(at_ g m:H)(σ:St):Prop
 |mk (af:St) (R':be) (bL:bw) (dh:be) (e:az PP (m+4) 39 [.obj 12] σ=D (.obj bL.inst,af)) (w:World xs M T S A R' at_ g af) (k:el R R') (ik:R'.twin= .obj bL.inst) (t:ly af A bL dh) (h0:0<=dh.dn) (ag:dh.dn+g<=19000)
theorem World.twin(h:World xs M T S A R at_ g σ):Ta xs M T S A R at_ g m σ:=by
 have i:=h.inv
 have k1:=h.inst.1
 have hm:R.mode≠3:=by rw[i.mode];rcases h.mode with e|e|e <;>rw[e] <;>decide
 rcases h.ik with q|⟨bL,dh,a6,bl,cF,eV⟩
 ·have ai:=agF (m:=m) i.rel
  rw[k1]at ai
  have dR:cq (rJ σ) A R:=i.rel.same (S:=[]) bx.append fun _ _=>nofun
  obtain⟨dq,s2⟩:=dR.xp (R':= {R with twin:= .obj σ.length}) rfl rfl rfl rfl
  have s3:bx [A.inst,A.bY,A.bk,A.aO,A.ba] σ ((rJ σ).set A.inst (.inst 5 (g0 A {R with twin:= .obj σ.length}))):=bx.append.trans (s2.dC (k9 (.head _)))
  obtain⟨fK,eu,eG⟩:=i.rC s3
  have f:=h.og
  have no:∀j,j < 12->j∉ [A.inst,A.bY,A.bk,A.aO,A.ba]:=fun j cg q=>o1.mpr (f j q).1 (o0 cg)
  have ik:ly ((rJ σ).set A.inst (.inst 5 (g0 A {R with twin:= .obj σ.length}))) A (nP σ.length) yq:=(aix (A:=A) h.ny (iC i.rel.aO)).same s2 (fun i hi=> .inl (by rw[dt.mp hi,k1];decide)) (.inl rfl)
  have w4:(0:O)+g<=19000:=by rw[QX];exact oW.mpr (cp (yH ..) h.room.dR)
  have tF:σ[12]?=D (.inst 5 (g0 A {R with twin:= .none})):=by rw[<-q];exact h.dJ
  have vx:(rJ σ)[12]?=D (.inst 5 (g0 A {R with twin:= .none})):=e4 tF
  refine⟨_, {R with twin:= .obj σ.length},nP σ.length,yq, ?_,⟨⟨i.a8,fK,eu,eG,dq,⟨i.tidy.dU,i.tidy.nodup,i.tidy.key⟩,i.mode,i.bk,i.lW,i.aO,i.da,i.size,i.e8⟩,h.idle,h.deep,h.place,h.ll,⟨s3.get h.d.eT (no 0 (by decide)),s3.get h.d.eL (no 1 (by decide))⟩,h.len,.yes _ _ rfl ik (by decide) w4,h.tell,h.mode,h.p1,⟨h.room.dR,h.room.dq,h.room.e2,h.room.gw,h.room.kF,h.room.ih,h.room.iG,h.room.jA⟩⟩,⟨rfl,rfl,rfl⟩,rfl,ik,by decide,w4⟩
  rw[k1]
  exact run (m+3) 39 [.obj 12] σ tF (bf hm) tF rfl ai vx (by kernel_rfl) (h9 vx)
 ·have tF:σ[12]?=D (.inst 5 (g0 A {R with twin:= .obj bL.inst})):=by rw[<-ae9 a6];exact h.dJ
  exact⟨σ,R,bL,dh,run (m+3) 39 [.obj 12] σ tF (bf hm) tF rfl tF,h,el.refl R,a6,bl,cF,eV⟩
end
section
variable {xs:I O}{M:O}{T aB:ak}{S:I (V×V)}{A bL:bw}{R dh:be}{at_ g c m n:H}{σ af:St}
theorem afC{s t:H}{f5:I V}{cM:I V}(h:TabAt σ T)(bu:gF σ)(cI:cq σ A R)(aI:T.rows[s]?=D (.ab (.int 15::cM)))(ax:T.rows[t]?=D (.ab (.int 6::f5)))(aY:s < a4)(aP:t < a4):
  az PP (m+1) 58 [.obj A.inst,.int s,.int t] σ=D (.bool aw,σ):=run m 58 [.obj A.inst,.int s,.int t] σ cI.inst bu h.bT (h.row aI aY) (h.row ax aP) cz cz (bf (by decide)) cz (je [6,7] (by decide)) cz (jy [6,7] (by decide))
inductive S4(A bL:bw)(dh:be)(m:H)(σ:St)(s t:H):Prop
 |mk (af:St) (CX:be) (e:az PP (m+6) 42 [.obj bL.inst,.int s,.int t] σ=D (.bool aw,af)) (h:ly af A bL CX) (s:bx [bL.inst,bL.bY,bL.bk,bL.aO,bL.ba] σ af) (h0:0<=CX.dn) (ag:CX.dn<=dh.dn+1)
theorem T8{l:O}{k S:H}(h0:0<=l)(aj:l < 19000)(h:(k:O)<=l):l < 20000/\k < 30000/\0<=l+1/\∀k',k'<=k+1->(k':O)<=l+1:=by
 refine⟨by omega,by omega,by omega,fun k' h=>by omega⟩
theorem aiw{s t:H}{cM oL:I V}{k:O}(h:TabAt σ T)(bu:gF σ)(a8:cP T)(fa:ly σ A bL dh)(aj:dh.dn < 19000)(h0:0<=dh.dn)(c5:T.rows[s]?=D (.ab (.int 15::cM)))(fC:T.rows[t]?=D (.ab (.int k::oL)))(am:k∈ [(1:O),3,4,6])(fm:s≠t)(jt:t≠13)
  (aE:∀i∈ [bL.inst,bL.bY,bL.bk,bL.aO,bL.ba],20 < i/\∀fs,σ[i]?≠D (.inst 2 fs)):S4 A bL dh m σ s t:=by
 have cI:=fa.rel
 have ls:=a8.lt c5
 have lt:=a8.lt fC
 have d7:=a8.big c5 (by decide)
 have dy:k≠2/\k≠8:=(by decide:∀k∈ [(1:O),3,4,6],k≠2/\k≠8) k am
 have go:=run (m+5) 42 [.obj bL.inst,.int s,.int t] σ (bf (dB fm)) cI.inst (oO (m:=m+2) h bu c5 (a8.good _ _ _ c5 (by decide) (by decide)) ls) cI.inst (oO (m:=m+2) h bu fC (a8.good _ _ _ fC dy.1 dy.2) lt) (bf (dB fm)) cI.inst (eqT fa.mode)
  cI.inst bu h.bT (bf (dB (gu d7 (by decide)))) (bf (dB jt)) (h.row c5 ls) cz (je [1,2,3,4,5] (by decide)) (h.row fC lt) cz
 by_cases rg:k=6
 ·have abB:k∉ [(1:O),2,3,4,5]:=by rw[rg];decide
  have go:=fun{v af} (e:az PP (m+5) 43 [.obj bL.inst,.int s,.int t] σ=D (v,af))=>go (je [1,2,3,4,5] abB) e
  cases pH:cx dh.bk (cB s t)with
  |some v=>
   obtain rfl:=fa.z3 _ _ pH
   exact⟨σ,dh,go (Mu (m:=m+4) cI pH),fa,bx.refl ..,h0,yD (ajL _)⟩
  |none=>
   have idle:=fa.idle
   have no:=fa.none
   have kV:=T8 (S:=0) h0 aj fa.size
   obtain⟨aC,ag,yl,a6,sy⟩:=Mv (m:=m+3) cI fa.tidy pH (by rw[idle];exact nofun) kV.1 (by rw[fa.deep];decide) (by rw[no];exact kL _) (by rw[idle];decide)
   rw[idle,no]at sy
   have Gp:bx [bL.inst,bL.bY,bL.bk,bL.aO,bL.ba] σ aC:=a6.dC (cK.mpr ⟨.head _,cK.mpr ⟨.tail _ (.head _),k9 (.tail _ (.tail _ (.tail _ (.head _))))⟩⟩)
   have adh:∀j,j<=20->j∉ [bL.inst,bL.bY,bL.bk,bL.aO,bL.ba]:=fun j cg q=>o1.mpr (aE j q).1 cg
   have t1:TabAt aC T:=h.calm Gp fun i hi=>⟨fN (by decide) (aE i hi).1,(aE i hi).2⟩
   have agL:=afC (m:=m+3) t1 (Gp.get bu (adh 11 (by decide))) ag c5 (rg▸fC) ls lt
   obtain⟨ct,bt,aT,aX,bZ⟩:=Kr (m:=m+3) (a:=0) (b:=0) sy ag (by rw[a7 (show(lR dh s t).mode=3 from fa.mode)];exact agL) ag yl (kL _) (by show(dh.aO++_).length < _;rw[idle];exact(by decide:1 < 30000)) (by show dh.ba.length<=a4;rw[no];exact kL _) (fN kV.2.1 (by decide))
   have W9:bx [bL.inst,bL.bY,bL.bk,bL.aO,bL.ba] aC ct:=bZ.dC (cK.mpr ⟨.head _,cK.mpr ⟨.tail _ (.tail _ (.tail _ (.tail _ (.head _)))),cK.mpr ⟨.tail _ (.tail _ (.tail _ (.head _))),cK.mpr ⟨.tail _ (.head _),k9 (.tail _ (.tail _ (.head _)))⟩⟩⟩⟩)
   have LK:(kC (lR dh s t) 0 0 (cB s t)).bk=dI dh.bk (cB s t) (.bool aw):=by unfold kC;dsimp only;exact a7 (Or.inl rfl)
   refine⟨ct,kC (lR dh s t) 0 0 (cB s t),go aT,⟨aX,⟨rfl,.nil,nofun⟩,fa.mode,fa.quiet,rfl, ?_,rfl,fun k' amE q=> ?_, ?_,fa.low,fa.apart⟩,Gp.trans W9,kV.2.2.1,n4 _⟩
   ·show dh.deep+1 - 1=0
    rw[fa.deep];rfl
   ·rw[LK,nx]at q
    split at q
    ·cases q;rfl
    ·exact fa.z3 _ _ q
   ·rw[LK];exact kV.2.2.2 _ (u2 ..)
 ·have u1:k∈ [(1:O),2,3,4,5]:=(by decide:∀k∈ [(1:O),3,4,6],k≠6->k∈ [(1:O),2,3,4,5]) k am rg
  exact⟨σ,dh,go (jy [1,2,3,4,5] u1),fa,bx.refl ..,h0,yD (ajL _)⟩
inductive y7(xs:I O)(M:O)(T:ak)(S:I (V×V))(A:bw)(R:be)(at_ g m f:H)(args:I V)(v:V)(σ:St):Prop
 |mk (af:St) (R':be) (e:az PP m f args σ=D (v,af)) (w:World xs M T S A R' at_ g af) (k:el R R')
theorem I9{l ci:O}{g:H}(h:l+(g+1:H)<=19000)(ah:ci<=l+1):l < 19000/\ci+g<=19000:=by omega
theorem World.same(h:World xs M T S A R at_ (g+1) σ){s t:H}{cM oL:I V}{k:O}(c5:T.rows[s]?=D (.ab (.int 15::cM)))(fC:T.rows[t]?=D (.ab (.int k::oL)))(am:k∈ [(1:O),3,4,6])(fm:s≠t)(jt:t≠13):
  y7 xs M T S A R at_ g (m+8) 34 [.obj 12,.int s,.int t] (.bool aw) σ:=by
 obtain⟨aC,cv,bL,dh,aT,a9,dG,aiv,li,hl,cL⟩:=h.twin (m:=m+3)
 have i:=a9.inv
 have r:=li.rel
 have aE:∀i∈ [bL.inst,bL.bY,bL.bk,bL.aO,bL.ba],20 < i/\∀fs,aC[i]?≠D (.inst 2 fs):=cK.mpr ⟨⟨li.low _ (.head _),oF r.inst nofun⟩,cK.mpr ⟨⟨li.low _ (.tail _ (.head _)),oF r.bY nofun⟩,cK.mpr ⟨⟨li.low _ (.tail _ (.tail _ (.head _))),oF r.bk nofun⟩,cK.mpr ⟨⟨li.low _ (.tail _ (.tail _ (.tail _ (.head _)))),oF r.aO nofun⟩,cK.mpr ⟨⟨li.low _ (.tail _ (.tail _ (.tail _ (.tail _ (.tail _ (.head _)))))),oF r.ba nofun⟩,nofun⟩⟩⟩⟩⟩
 obtain⟨bn,SX,aX,ahL,s2,abV,ci⟩:=aiw (m:=m) i.tab i.host i.a8 li (I9 cL (n4 _)).1 hl c5 fC am fm jt aE
 have ap:∀j∈ [bL.inst,bL.bY,bL.bk,bL.aO,bL.ba],j≠A.aO:=cK.mpr ⟨li.apart _ (.head _),cK.mpr ⟨li.apart _ (.tail _ (.head _)),cK.mpr ⟨li.apart _ (.tail _ (.tail _ (.head _))),cK.mpr ⟨li.apart _ (.tail _ (.tail _ (.tail _ (.head _)))),cK.mpr ⟨li.apart _ (.tail _ (.tail _ (.tail _ (.tail _ (.tail _ (.head _)))))),nofun⟩⟩⟩⟩⟩
 have nD:∀j,(j<=20\/j=A.aO)->j∉ [bL.inst,bL.bY,bL.bk,bL.aO,bL.ba]:=fun j cg q=>cg.elim (o1.mpr (aE j q).1) (ap j q)
 have og:∀j∈ [A.inst,A.bY,A.bk,A.aO,A.da,A.ba],j<=20\/j=A.aO:=by
  obtain⟨hn,gR,kE,oH,nH⟩:=a9.inst
  have c:∀n,decide (n<=20)=ae->n<=20\/n=A.aO:=fun n h=> .inl (gy h)
  rw[hn,gR,kE,oH,nH]
  exact cK.mpr ⟨c 12 rfl,cK.mpr ⟨c 14 rfl,cK.mpr ⟨c 15 rfl,cK.mpr ⟨.inr rfl,cK.mpr ⟨c 18 rfl,cK.mpr ⟨c 19 rfl,nofun⟩⟩⟩⟩⟩⟩
 have lo:∀n,decide (n<=20)=ae->n∉ [bL.inst,bL.bY,bL.bk,bL.aO,bL.ba]:=fun n h=>nD n (.inl (gy h))
 exact⟨bn,cv,run (m+7) 34 [.obj 12,.int s,.int t] σ (bf (dB fm)) aT li.rel.inst (Dj (m:=m+5) li.rel aX),
  ⟨⟨i.a8,i.tab.calm s2 (fun j cg=>⟨fN (by decide) (aE j cg).1,(aE j cg).2⟩),s2.get i.host (lo 11 rfl),⟨s2.get i.rules.1 (lo 13 rfl),s2.get i.rules.2 (lo 20 rfl)⟩,i.rel.same s2 fun j cg=>nD j (og j cg),i.tidy,i.mode,i.bk,i.lW,i.aO,i.da,i.size,i.e8⟩,a9.idle,a9.deep,a9.place,a9.ll,⟨s2.get a9.d.eT (lo 0 rfl),s2.get a9.d.eL (lo 1 rfl)⟩,a9.len,.yes bL SX aiv ahL abV (I9 cL ci).2,a9.tell,a9.mode,a9.p1,a9.room.less (eJ g)⟩,dG⟩
theorem World.dC(h:World xs M T S A R at_ (g+2) σ){s t:H}{cM oL:I V}{k:O}(c5:T.rows[s]?=D (.ab (.int 15::cM)))(fC:T.rows[t]?=D (.ab (.int k::oL)))(am:k∈ [(1:O),3,4,6])(fm:s≠t)(jt:t≠13):
  y7 xs M T S A (R.say [3]) at_ g (m+9) 46 [.obj 12,.int s,.int t] .none σ:=by
 have ym:=ahU (m:=m+7) h.inv.rel
 rw[h.inst.1]at ym
 rcases ajF R.df with q|q
 ·obtain⟨aC,cv,aT,a9,dG⟩:=World.same (m:=m) (g:=g+1) h c5 fC am fm jt
  obtain⟨bn,aX,bE⟩:=World.note (m:=m+6) a9 3
  rw[q,cW (h.inv.mode.trans (h.tell q))]at ym
  refine⟨bn,_,run (m+8) 46 [.obj 12,.int s,.int t] σ ym (neT (dB (gu (h.inv.a8.big c5 (by decide)) (by decide)))) (neT (dB jt)) h.dJ aT a9.dJ aX,bE, ?_,dG.df,dG.at_⟩
  show cv.ba++told cv [3]=R.ba++told R [3]
  rw[dG.ba];unfold told;rw[dG.df,dG.at_]
 ·rw[q]at ym
  refine⟨σ,R,run (m+8) 46 [.obj 12,.int s,.int t] σ ym,h.less (cn ..), ?_,rfl,rfl⟩
  show R.ba=R.ba++told R [3]
  unfold told;rw[q];exact(fi _).symm
end
theorem sb{ck:V->St->aJ (au×St)}{f:V->St->aJ (V×St)}{live:St->au}{σ:St}{c:V->au}{r:V->V}:∀(vs cb:I V) (cU:St),(∀v∈vs,∀t,∃x,ck v (σ++t)=D (c v,σ++t++x))->(∀v∈vs,c v=ae->∀t,∃x,f v (σ++t)=D (r v,σ++t++x))->(∀t,live (σ++t)=ae)->
  cb.length+vs.length < a4->∃x2,gH σ.length ck f live vs (σ++ .list cb::cU)=D (σ++ .list (cb++(vs.filter c).map r)::x2)
 |[],cb,cU,_,_,aj,_=>⟨cU,(zE (aj _)).trans (by rw[ajS,HG,fi])⟩
 |v::vs,cb,cU,aE,bH,aj,hz=>by
  obtain⟨x,aT⟩:=aE v (.head _) (.list cb::cU)
  have ia:∀w∈vs,∀t,∃x,ck w (σ++t)=D (c w,σ++t++x):=fun w hw=>aE w (.tail _ hw)
  have xf:∀w∈vs,c w=ae->∀t,∃x,f w (σ++t)=D (r w,σ++t++x):=fun w hw=>bH w (.tail _ hw)
  rw[hR]at aT
  cases q:c v with
  |false=>
   rw[q]at aT
   obtain⟨x2,bh⟩:=sb (ck:=ck) (f:=f) (live:=live) (σ:=σ) (c:=c) (r:=r) vs cb (cU++x) ia xf aj (qh hz)
   exact⟨x2,JW (aj _) aT (by rw[Q2 (by rw[q];decide)];exact bh)⟩
  |true=>
   rw[q]at aT
   obtain⟨y,aX⟩:=bH v (.head _) q (.list cb::(cU++x))
   rw[hR]at aX
   obtain⟨x2,bh⟩:=sb (ck:=ck) (f:=f) (live:=live) (σ:=σ) (c:=c) (r:=r) vs (cb++ [r v]) (cU++x++y) ia xf aj (by rw[jg,jL];exact hz)
   refine⟨x2,zD (aj _) aT aX qV (c9 (cn ..) hz) ?_⟩
   rw[Q3 q,eI]
   rw[hR cb]at bh
   exact(bs _ GL).trans bh
theorem ak.Gl(T:ak)(r:V):(T.put r).pos r=T.pos r/\r∈(T.put r).rows:=by
 unfold ak.put ak.pos
 split
 ·rename_i h;exact⟨rfl,h⟩
 ·rename_i h
  refine⟨?_,Re _ (.head _)⟩
  dsimp only
  rw[aj1,bz h,Q7 h,List.idxOf_cons_self,g7]
theorem ak.bJ.pos{T aB:ak}(h:T.bJ aB){r:V}(bg:r∈T.rows):aB.pos r=T.pos r/\r∈aB.rows:=by
 obtain⟨ex,he⟩:=h.rows
 unfold ak.pos
 rw[he,aj1,a7 bg]
 exact⟨rfl,tS _ bg⟩
theorem ak.pos_at{T:ak}{r:V}(bg:r∈T.rows):T.rows[T.pos r]?=D r:=by
 unfold ak.pos
 rw[hG (aj2 bg),ajY]
theorem aeI{T:ak}{r:V}{σ t:St}(b1:4 < σ.length):gi T r (σ++t)=gi T r σ++t:=by
 unfold gi
 split
 ·rfl
 ·rw[aj8 _ _ (qh b1),aj8 _ _ (by rw[tR];exact b1)]
theorem Go{T:ak}{r:V}{σ:St}:(gi T r σ).length=σ.length:=by
 unfold gi;split
 ·rfl
 ·rw[tR,tR]
section
variable {xs:I O}{M:O}{T:ak}{S:I (V×V)}{A:bw}{R:be}{at_ g m:H}{σ:St}
theorem World.Ov(h:World xs M T S A R at_ (g+1) σ){r:V}(bg:iT r):az PP (m+1) 3 [.obj 2,r] σ=D (.int (T.pos r:H),gi T r σ)/\World xs M (T.put r) S A R at_ g (gi T r σ):=
 have ⟨e,w,_⟩:=h.ru bg.b (bg.fit T);⟨e,w⟩
noncomputable def ak.ho(T:ak):I V->ak
 |[]=>T
 |r::lS=>(T.put r).ho lS
theorem ak.vu:∀(l:I V) (T:ak),T.bJ (T.ho l)
 |[],T=>ak.bJ.refl T
 |r::l,T=>(T.mL r).trans (ak.vu l _)
theorem ak.xY:∀(l:I V) (T:ak),∀r∈l,r∈(T.ho l).rows
 |[],T,r,h=>by cases h
 |r::l,T,x,h=>by
  rcases dj.mp h with rfl|h
  ·exact((ak.vu l (T.put x)).pos (T.Gl x).2).2
  ·exact ak.xY l _ x h
theorem ak.Bv:∀(l:I V) (T:ak),(T.ho l).bounds=T.bounds/\(T.ho l).decls=T.decls
 |[],T=>⟨rfl,rfl⟩
 |r::l,T=>by
  obtain⟨a,b⟩:=ak.Bv l (T.put r)
  obtain⟨x,_,_,y⟩:=T.vt r
  exact⟨a.trans x,b.trans y⟩
inductive Sf(xs:I O)(M:O)(S:I (V×V))(A:bw)(R:be)(at_ g:H)(L:H)(ck:V->St->aJ (au×St))(f:V->St->aJ (V×St))(live:St->au)(vs cb:I V)(σ:St)(aB:ak)(res:I V):Prop
 |mk (af:St) (e:gH L ck f live vs (σ++ [.list cb])=D (af++ [.list (cb++res)])) (l:af.length=L) (w:World xs M aB S A R at_ g af) (s:bx [3,4] σ af)
theorem wO{ck:V->St->aJ (au×St)}{f:V->St->aJ (V×St)}{live:St->au}{c:V->au}{rowf:V->V}{L:H}:∀(vs cb:I V) (σ:St) (T:ak),σ.length=L->World xs M T S A R at_ (g+vs.length) σ->(∀v∈vs,c v=ae->iT (rowf v))->
  (∀v∈vs,∀aF,ck v aF=D (c v,aF))->(∀v∈vs,c v=ae->∀(T:ak) (aF:St) (g:H),World xs M T S A R at_ (g+1) aF->f v aF=D (.int (T.pos (rowf v):H),gi T (rowf v) aF))->(∀aF t,bx [3,4] σ aF->live (aF++t)=ae)->cb.length+vs.length < a4->
  Sf xs M S A R at_ g L ck f live vs cb σ (T.ho ((vs.filter c).map rowf)) ((vs.filter c).map fun v=> .int ((T.ho ((vs.filter c).map rowf)).pos (rowf v):H))
 |[],cb,σ,T,eo,h,_,_,_,aj,_=>⟨σ,(zE (aj σ _ (bx.refl ..))).trans (by rw[ajS,HG,fi]),eo,h,bx.refl ..⟩
 |v::vs,cb,σ,T,eo,h,bg,aE,bH,aj,hz=>by
  have aT:=aE v (.head _) (σ++ [.list cb])
  have LQ:∀w∈vs,c w=ae->iT (rowf w):=fun w hw=>bg w (.tail _ hw)
  have ia:∀w∈vs,∀aF,ck w aF=D (c w,aF):=fun w hw=>aE w (.tail _ hw)
  have xf:∀w∈vs,c w=ae->∀(T:ak) (aF:St) (g:H),World xs M T S A R at_ (g+1) aF->f w aF=D (.int (T.pos (rowf w):H),gi T (rowf w) aF):=fun w hw=>bH w (.tail _ hw)
  cases q:c v with
  |false=>
   rw[q]at aT
   obtain⟨af,bh,E2,E3,E4⟩:=wO (ck:=ck) (f:=f) (live:=live) (c:=c) (rowf:=rowf) (L:=L) vs cb σ T eo (h.less (eJ _)) LQ ia xf aj (qh hz)
   rw[Q2 (by rw[q];decide)]
   exact⟨af,JW (aj σ _ (bx.refl ..)) aT bh,E2,E3,E4⟩
  |true=>
   rw[q]at aT
   have h:World xs M T S A R at_ ((g+vs.length)+1) σ:=h
   have aX:=bH v (.head _) q T (σ++ [.list cb]) (g+vs.length) (h.more _)
   rw[aeI (fN (by decide) h.ny)]at aX
   obtain⟨_,ah,i0⟩:=h.ru (m:=0) (bg v (.head _) q).b ((bg v (.head _) q).fit T)
   obtain⟨af,bh,E2,E3,E4⟩:=wO (ck:=ck) (f:=f) (live:=live) (c:=c) (rowf:=rowf) (L:=L) vs (cb++ [.int (T.pos (rowf v):H)]) (gi T (rowf v) σ) (T.put (rowf v)) (by rw[Go];exact eo) ah LQ ia xf (fun aF t s=>aj aF t (i0.trans s)) (by rw[jg,jL];exact hz)
   have Ex:L=(gi T (rowf v) σ).length:=by rw[Go,eo]
   have Oi:((T.put (rowf v)).ho ((vs.filter c).map rowf)).pos (rowf v)=T.pos (rowf v):=by
    rw[((ak.vu _ (T.put (rowf v))).pos (T.Gl (rowf v)).2).1,(T.Gl (rowf v)).1]
   rw[hR,<-Oi]at bh
   rw[<-Oi]at aX
   rw[Q3 q,eI]
   refine⟨af,zD (aj σ _ (bx.refl ..)) aT aX (by rw[Ex];exact fP) (c9 (cn ..) hz) ?_,E2,E3,i0.trans E4⟩
   rw[Ex,p2,<-Ex]
   exact bh
end
section
variable {P:c4}{C:Cl}{J:Loc}{σ aC bn ct:St}
theorem zY:e3 P C [] J σ=D ([],σ):=rfl
theorem eO{e:E}{es:I E}{v:V}{vs:I V}(h:aG P C e J σ=D (v,aC))(aY:e3 P C es J aC=D (vs,bn)):e3 P C (e::es) J σ=D (v::vs,bn):=(av h (av aY rfl):(aG P C e J σ).bind _=_)
theorem jT{e:E}{v:V}(h:aG P C e J σ=D (v,aC)):e3 P C [e] J σ=D ([v],aC):=eO h zY
theorem jc{e f:E}{v w:V}(h:aG P C e J σ=D (v,aC))(ah:aG P C f J aC=D (w,bn)):e3 P C [e,f] J σ=D ([v,w],bn):=eO h (jT ah)
theorem oe{e f g:E}{v w x:V}(h:aG P C e J σ=D (v,aC))(ah:aG P C f J aC=D (w,bn))(aN:aG P C g J bn=D (x,ct)):e3 P C [e,f,g] J σ=D ([v,w,x],ct):=eO h (jc ah aN)
theorem jm{f:H}{as:I E}{vs:I V}{r:V×St}(h:e3 P C as J σ=D (vs,aC))(aE:C f vs aC=D r):aG P C (.call f as) J σ=D r:=(av h aE:(e3 P C as J σ).bind _=_)
theorem sY{o:E}{m n c f:H}{fs:I (H×V)}{as:I E}{vs:I V}{r:V×St}(aR:aG P C o J σ=D (.obj n,aC))(hA:aC[n]?=D (.inst c fs))(hm:P.b6 c m=D f)(h:e3 P C as J aC=D (vs,bn))(aE:C f (.obj n::vs) bn=D r):aG P C (.b6 o m as) J σ=D r:=(av aR (by dsimp only;rw[hA];dsimp only;rw[hm];exact av h aE):(aG P C o J σ).bind _=_)
theorem Gx{e:E}{v:V}(h:aG P C e J σ=D (v,aC)):gI P C (.ret e) J σ=D (.ret v,J,aC):=(av h rfl:(aG P C e J σ).bind _=_)
theorem bF{i:H}{v:V}(h:c2 J i=D v):aG P C (.aq i) J σ=D (v,σ):=(av h rfl:(c2 J i).bind _=_)
theorem cE{v:V}:aG P C (.lit v) J σ=D (v,σ):=rfl
theorem Zz{g:H}{v:V}(h:P.aV g=D v):aG P C (.aV g) J σ=D (v,σ):=(av h rfl:(P.aV g).bind _=_)
theorem wz{e:E}{a n c:H}{fs:I (H×V)}{v:V}(h:aG P C e J σ=D (.obj n,aC))(aE:aC[n]?=D (.inst c fs))(bH:mr fs a=D v):aG P C (.attr e a) J σ=D (v,aC):=(av h (by dsimp only;rw[aE];exact av bH rfl):(aG P C e J σ).bind _=_)
theorem lg{a b:E}{v w x:V}(h:aG P C a J σ=D (v,aC))(ah:aG P C b J aC=D (w,bn))(aY:ee bn v w=D x):aG P C (.sub a b) J σ=D (x,bn):=(av h (av ah (av aY rfl)):(aG P C a J σ).bind _=_)
theorem gc{o:n6}{a b:E}{v w:V}{r:au}(h:aG P C a J σ=D (v,aC))(ah:aG P C b J aC=D (w,bn))(aY:dF bn o v w=D r):aG P C (.ay o a b) J σ=D (.bool r,bn):=(av h (av ah (av aY rfl)):(aG P C a J σ).bind _=_)
theorem kX{o:mW}{a b:E}{v w x:V}(h:aG P C a J σ=D (v,aC))(ah:aG P C b J aC=D (w,bn))(aY:hM o v w=D x):aG P C (.bin o a b) J σ=D (x,bn):=(av h (av ah (av aY rfl)):(aG P C a J σ).bind _=_)
theorem Ba{a:E}{i:O}(h:aG P C a J σ=D (.int i,aC)):aG P C (.neg a) J σ=D (.int (-i),aC):=(av h rfl:(aG P C a J σ).bind _=_)
theorem FY{a:E}{v:V}{b:au}(h:aG P C a J σ=D (v,aC))(aP:eh aC v=D b):aG P C (.not a) J σ=D (.bool (!b),aC):=(av h (av aP rfl):(aG P C a J σ).bind _=_)
theorem kJ{es:I E}{vs:I V}(h:e3 P C es J σ=D (vs,aC)):aG P C (.ab es) J σ=D (.ab vs,aC):=(av h rfl:(e3 P C es J σ).bind _=_)
theorem AY{es:I E}{vs:I V}(h:e3 P C es J σ=D (vs,aC)):aG P C (.lst es) J σ=D (.lst vs,aC):=(av h rfl:(e3 P C es J σ).bind _=_)
theorem uX{c a b:E}{v:V}{t:au}{r:V×St}(h:aG P C c J σ=D (v,aC))(aP:eh aC v=D t)(bg:(if t then aG P C a J aC else aG P C b J aC)=D r):aG P C (.ite c a b) J σ=D r:=by
 show(aG P C c J σ).bind (fun(x,σ)=>(eh σ x).bind fun t=>match t with|true=>aG P C a J σ|false=>aG P C b J σ)=D r
 refine av h (av aP ?_)
 cases t <;>exact bg
theorem KD{e:E}(h:aG P C e J σ=D (.none,aC)):gI P C (.expr e) J σ=D (.next,J,aC):=(av h rfl:(aG P C e J σ).bind _=_)
theorem agv{i j:H}{e:E}{a b:V}(h:aG P C e J σ=D (.ab [a,b],aC)):gI P C (.mN i j e) J σ=D (.next,(J.set i (D a)).set j (D b),aC):=(av h rfl:(aG P C e J σ).bind _=_)
theorem zh{e f:E}{es:I E}{v:V}(h:aG P C e J σ=D (v,aC))(aP:eh aC v=D aw):aG P C (.and (e::f::es)) J σ=D (v,aC):=(av h (av aP rfl):(aG P C e J σ).bind _=_)
theorem zi{e f:E}{es:I E}{v:V}{r:V×St}(h:aG P C e J σ=D (v,aC))(aP:eh aC v=D ae)(bg:aG P C (.and (f::es)) J aC=D r):aG P C (.and (e::f::es)) J σ=D r:=(av h (av aP bg):(aG P C e J σ).bind _=_)
theorem IW{e:E}{r:V×St}(h:aG P C e J σ=D r):aG P C (.and [e]) J σ=D r:=h
theorem Ge{e f:E}{es:I E}{v:V}(h:aG P C e J σ=D (v,aC))(aP:eh aC v=D ae):aG P C (.or (e::f::es)) J σ=D (v,aC):=(av h (av aP rfl):(aG P C e J σ).bind _=_)
theorem Gd{e f:E}{es:I E}{v:V}{r:V×St}(h:aG P C e J σ=D (v,aC))(aP:eh aC v=D aw)(bg:aG P C (.or (f::es)) J aC=D r):aG P C (.or (e::f::es)) J σ=D r:=(av h (av aP bg):(aG P C e J σ).bind _=_)
theorem N6{e:E}{r:V×St}(h:aG P C e J σ=D r):aG P C (.or [e]) J σ=D r:=h
theorem De{e:E}{v:V}{vs:I V}{iW:I au}(h:aG P C e J σ=D (v,aC))(aj:lJ aC v=D vs)(ax:hc vs=D iW):aG P C (.any e) J σ=D (.bool (iW.any id),aC):=(av h (av aj (av ax rfl)):(aG P C e J σ).bind _=_)
theorem IR{e:E}{v:V}{vs:I V}{iW:I au}(h:aG P C e J σ=D (v,aC))(aj:lJ aC v=D vs)(ax:hc vs=D iW):aG P C (.all e) J σ=D (.bool (iW.all id),aC):=(av h (av aj (av ax rfl)):(aG P C e J σ).bind _=_)
theorem pn{α:Type}:∀(l:I α) (f:α->au),hc (l.map fun x=>V.bool (f x))=D (l.map f)
 |[],f=>rfl
 |a::l,f=>av (pn l f) rfl
theorem ab9{e:E}{v w:V}(h:aG P C e J σ=D (v,aC))(aj:wV aC v=D w):aG P C (.len e) J σ=D (w,aC):=(av h (av aj rfl):(aG P C e J σ).bind _=_)
end
structure fy where
 name:aK
 ty:H
 fl:H
 k:O
noncomputable def pv(p:fy):V:= .ab [.str p.name,.int p.ty,.int p.fl,.int p.k]
structure cX where
 props:I fy
 calls:V
 ctors:V
 gO:V
 mz:V
 flag:O
noncomputable def cX.row(o:cX):V:= .ab [.int 8,.ab (o.props.map pv),o.calls,o.ctors,o.gO,o.mz,.int o.flag]
inductive gq(T:ak):H->H->cX->Prop
 |obj {t:H} {o:cX}:T.rows[t]?=D o.row->gq T t t o
 |ref {t i d dy:H} {o:cX}:T.rows[t]?=D (.ab [.int 9,.int ((d+1:H):O),.ab []])->T.decls[d]?=D (dy,(i:O))->d < 100000->T.rows[i]?=D o.row->gq T t i o
theorem gq.le{T aB:ak}(h:T.bJ aB){t i:H}{o:cX}(s:gq T t i o):gq aB t i o:=by
 cases s with
 |obj e=>exact .obj (h.row e)
 |ref aT aX bZ dP=>exact .ref (h.row aT) (h.decl aX) bZ (h.row dP)
theorem gq.row{T:ak}{t i:H}{o:cX}(s:gq T t i o):T.rows[i]?=D o.row:=by
 cases s with
 |obj e=>exact e
 |ref _ _ _ e=>exact e
theorem gq.aW{T:ak}{t i:H}{o:cX}(s:gq T t i o):∃k rest,T.rows[t]?=D (.ab (.int k::rest))/\(k=8\/k=9):=by
 cases s with
 |obj e=>exact⟨8,_,e,.inl rfl⟩
 |ref e _ _ _=>exact⟨9,_,e,.inr rfl⟩
noncomputable def se(m:H):V->au
 |.ab [_,_,.int f,_]=>decide (((f.toNat &&& m:H):O)=0)
 |_=>aw
noncomputable def oK:V->V
 |.ab (.str n::_)=> .ab [.int 3,.str n,.int 0]
 |_=> .ab [.int 3,.str ⟨#[]⟩,.int 0]
noncomputable def eX(n:aK):V:= .ab [.int 3,.str n,.int 0]
theorem runC(P:c4)(C:Cl)(e:aJ E)(J:Loc)(σ:St):DH P C e J σ fun b af=>gC P C e J σ=D (b,af):=JZ e J σ _ fun _ _ h=>h
theorem wF{a b:H}:hM .band (.int (a:O)) (.int (b:O))=D (.int ((a &&& b:H):O)):=by
 show(if 0<=(a:O)/\0<=(b:O)then D (V.int (((a:O).toNat &&& (b:O).toNat:H):O))else aa)=_
 exact a7 ⟨kd a,kd b⟩
theorem aiI{n:V}:unmarked (.ab [.int 3,n,.int 0]):=⟨3,_,rfl,by decide,fun _=>⟨0,rfl,by decide⟩,by show 2 < 50;decide⟩
theorem ry(n:aK):iT (eX n):=⟨rfl,rfl,3,_,rfl,fun _ _=>aiI,fun _=>⟨_,_,rfl⟩,by decide,by decide⟩
theorem Nw:∀ {l:I H},(∀x∈l,x < a4)->ta ((cA l).map .int)=D l
 |[],_=>rfl
 |x::r,aj=>(a7 ⟨kd x,fv.mpr (aj x (.head _))⟩).trans (av (Nw fun y bo=>aj y (.tail _ bo)) rfl)
theorem AI{T:ak}{u:H}{l:I H}(h:T.rows[u]?=D (.ab [.int 6,.ab ((cA l).map .int)]))(aj:∀x∈l,x < a4):iA T u=D l:=abO h (Nw aj)
theorem abF{T:ak}(b8:cP T){x:H}{k:O}(h:KK.aW T x=D k):x < a4:=by
 obtain⟨r,e⟩:=iY h;exact b8.lt e
theorem jl.nms{T:ak}(b8:cP T){u:H}{l:I H}(h:jl T u l)(aN:∀x∈l,KK.aW T x=D 3):iR T u l:=by
 rcases h with⟨rfl,rfl⟩|h|⟨ah,h⟩
 ·exact .never
 ·subst h;exact .one (aN u (.head _))
 ·exact .union (AI h fun x aA=>abF b8 (aN x aA)) ah aN
theorem GZ{T:ak}{x:H}{n:aK}(h:T.rows[x]?=D (eX n)):aW T x=D 3:=gg h
theorem Jt{T:ak}{x:H}{k:O}{rest:I V}(b8:cP T)(h:T.rows[x]?=D (.ab (.int k::rest)))(am:k∉ [(1:O),2,6,8]):iS T x:=
 have no:∀y:O,y∈ [(1:O),2,6,8]->k≠y:=fun y bo e=>am (e▸bo)
 ⟨k,rest,h,b8.good _ _ _ h (no 2 (by decide)) (no 8 (by decide)),.inr (.inr (.inr (.inr (b8.big h fun q=>by rcases q with q|q|q|q;exact no 1 (by decide) q;exact no 2 (by decide) q;exact no 8 (by decide) q;exact no 6 (by decide) q))))⟩
theorem BS{T:ak}(b8:cP T){x:H}{n:aK}(h:T.rows[x]?=D (eX n)):iS T x:=Jt b8 h (by decide)
theorem vm{T:ak}(b8:cP T){x:H}{k:O}{rest:I V}(h:T.rows[x]?=D (.ab (.int k::rest)))(am:k≠6)(ah:x≠2):gY T x (cA [x]):= .one h am ah (b8.lt h)
theorem BR{T:ak}(b8:cP T){x:H}{n:aK}(h:T.rows[x]?=D (eX n)):gY T x (cA [x]):=vm b8 h (by decide) (gu (b8.big h (by decide)) (by decide))
section
variable {xs:I O}{M:O}{T:ak}{S:I (V×V)}{A:bw}{R:be}{at_ g m:H}{σ:St}
theorem World.shape(h:World xs M T S A R at_ g σ){t i:H}{o:cX}(s:gq T t i o):az PP (m+2) 30 [.obj 11,.int t] σ=D (.int (i:H),σ):=by
 refine aaH (m:=m) h.inv.host ?_
 cases s with
 |obj e=>exact agD h.inv.tab e (h.inv.a8.lt e)
 |ref aT aX bZ dP=>exact agE h.inv.tab rfl aT (h.inv.a8.lt aT) aX (c9 bZ (by decide)) dP (h.inv.a8.lt dP)
theorem World.row(h:World xs M T S A R at_ g σ){t:H}{r:V}(bg:T.rows[t]?=D r):ee σ (.obj 3) (.int (t:O))=D r:=h.inv.tab.row bg (h.inv.a8.lt bg)
theorem wZ:∀(l:I H),(l.flatMap fun t=> [t])=l
 |[]=>rfl
 |a::l=>bs (a:: ·) (wZ l)
theorem World.ys(h:World xs M T S A R at_ (g+1) σ){pv:V}{ts:I H}(hi:t8 σ pv (ts.map fun t=> .int (t:H)))(ao:∀t∈ts,gY T t (cA [t]))(hz:ts.length < 64)(ot:∀x∈ts,iS T x)(hw:y4 T ts):IJ xs M T S A R at_ g m σ pv ts:=by
 have u:=World.union (m:=m) h (pf:=fun t=> [t]) hi ao (by rw[wZ];exact hz) (by rw[wZ];exact ot) (by rw[wZ];exact hw)
 rw[wZ]at u
 exact u
inductive Ix(xs:I O)(M:O)(T:ak)(S:I (V×V))(A:bw)(R:be)(at_ g m f:H)(args:I V)(σ:St)(o:cX)(mask:H):Prop
 |mk (af:St) (u:H) (aB:ak) (ns:I H) (e:az PP m f args σ=D (.int (u:H),af)) (w:World xs M aB S A R at_ g af) (le:T.bJ aB) (n:iR aB u ns) (len:ns.length<=4)
  (mem:∀x,x∈ns↔∃p∈o.props,p.fl &&& mask=0/\aB.rows[x]?=D (eX p.name)) (b:aB.bounds=T.bounds) (d:aB.decls=T.decls) (hP:ns.Pairwise (· < ·))
theorem DO{p:fy}{m:H}:se m (pv p)=decide (p.fl &&& m=0):=kQ.mpr ⟨fM,fun h=>bs l3 h⟩
theorem World.shown(h:World xs M T S A R at_ (g+10) σ){t i:H}{o:cX}(s:gq T t i o)(aj:o.props.length<=4){mask:H}:Ix xs M T S A R at_ g (m+5) 61 [.obj 11,.int t,.int (mask:H)] σ o mask:=by
 have gv:(o.props.map pv).length<=4:=by rw[d5];exact aj
 obtain⟨aC,aE,eo,a9,s1⟩:=wO (ck:=fun v aF=>gC PP (az PP (m+4)) (D (.ay .eq (.bin .band (.sub (.aq 4) (.lit (.int 2))) (.aq 2)) (.lit (.int 0)))) [D (.obj 11),D (.int t),D (.int (mask:H)),D o.row,D v] aF)
  (f:=fun v aF=>aG PP (az PP (m+4)) (.call 5 [.attr (.aq 0) 27,.sub (.aq 4) (.lit (.int 0))]) [D (.obj 11),D (.int t),D (.int (mask:H)),D o.row,D v] aF)
  (live:=eQ σ (.ab (o.props.map pv))) (c:=se mask) (rowf:=oK) (L:=σ.length) (g:=g+1) (o.props.map pv) [] σ T rfl (h.less (by omega))
  (fun v aH _=>by
   obtain⟨p,_,rfl⟩:=dk.mp aH
   exact ry p.name)
  (fun v aH aF=>by
   obtain⟨p,_,rfl⟩:=dk.mp aH
   exact runC PP (az PP (m+4)) (D (.ay .eq (.bin .band (.sub (.aq 4) (.lit (.int 2))) (.aq 2)) (.lit (.int 0)))) [D (.obj 11),D (.int t),D (.int (mask:H)),D o.row,D (pv p)] aF lh wF rfl)
  (fun v aH _ T aF g w=>by
   obtain⟨p,_,rfl⟩:=dk.mp aH
   exact jB PP (az PP (m+4)) (.call 5 [.attr (.aq 0) 27,.sub (.aq 4) (.lit (.int 0))]) [D (.obj 11),D (.int t),D (.int (mask:H)),D o.row,D (pv p)] aF w.inv.host cz (ahu (m:=m+2) (s:=p.name) w.inv.tab (w.room.put (k:=0)).1))
  (fun _ _ _=>rfl) (c9 (cp (gb (g7 _)) gv) (by decide))
 rw[qf]at aE
 have w0:((o.props.map pv).filter (se mask)).length<=4:=cp (Q9 _ _) gv
 have pG:∀v,v∈(o.props.map pv).filter (se mask)↔∃p∈o.props,p.fl &&& mask=0/\pv p=v:=fun v=>by
  rw[HH,dk]
  exact⟨fun⟨⟨p,ao,e⟩,h⟩=>⟨p,ao,gy (DO.symm.trans (e▸h)),e⟩,fun⟨p,ao,h,e⟩=>⟨⟨p,ao,e⟩,e▸DO.trans (cW h)⟩⟩
 generalize (o.props.map pv).filter (se mask)=fl at *
 have iH:=a9.inv.a8
 have nn:∀x∈fl.map fun v=>(T.ho (fl.map oK)).pos (oK v),∃p∈o.props,p.fl &&& mask=0/\(T.ho (fl.map oK)).rows[x]?=D (eX p.name):=fun x aA=>by
  obtain⟨v,aH,rfl⟩:=dk.mp aA
  obtain⟨p,ao,h0,rfl⟩:=(pG v).mp aH
  exact⟨p,ao,h0,ak.pos_at (ak.xY _ _ _ (rT aH))⟩
 have big:∀x∈fl.map fun v=>(T.ho (fl.map oK)).pos (oK v),16<=x:=fun x aA=>by
  obtain⟨p,_,_,e⟩:=nn x aA
  exact iH.big e (by decide)
 obtain⟨bn,u,aB,l,fK,eu,eG,nQ,nR,jE,oP,vO,vP,vN,Hf⟩:=World.ys (m:=m) (a9.more [.list (fl.map fun v=> .int ((T.ho (fl.map oK)).pos (oK v):H))]) (pv:= .obj σ.length) (ts:=fl.map fun v=>(T.ho (fl.map oK)).pos (oK v))
  (.inr (.inr ⟨_,rfl,by rw[<-eo,iK];exact fP⟩))
  (fun x aA=>by
   obtain⟨p,_,_,e⟩:=nn x aA
   exact BR iH e)
  (by rw[d5];exact c9 w0 (by decide))
  (fun x aA=>by
   obtain⟨p,_,_,e⟩:=nn x aA
   exact BS iH e)
  (.inl ⟨fun q=>absurd (big _ q) (by decide),fun q=>absurd (big _ q) (by decide)⟩)
 refine⟨bn,u,aB,l,(run (m+4) 61 [.obj 11,.int t,.int (mask:H)] σ h.inv.host h.inv.tab.bT h.inv.host (h.shape (m:=m+2) s) (h.row s.row) cz (k7 rfl) h.inv.host hD rfl).1 aE fK,eu,(ak.vu _ _).trans eG,nQ.nms eu.inv.a8 (fun x aA=> ?_), ?_,fun x=> ?_, ?_, ?_,nR⟩
 ·obtain⟨p,_,_,e⟩:=nn x ((jE x).mp aA)
  exact GZ (eG.row e)
 ·exact cp vN (by rw[d5];exact w0)
 ·rw[jE]
  refine⟨fun aA=> ?_,fun⟨p,ao,h0,e⟩=> ?_⟩
  ·obtain⟨p,ao,h0,e⟩:=nn x aA
   exact⟨p,ao,h0,eG.row e⟩
  ·have aH:=(pG _).mpr ⟨p,ao,h0,rfl⟩
   exact dk.mpr ⟨pv p,aH,mJ eu.inv.tab.nodup (eG.row (ak.pos_at (ak.xY _ _ _ (rT aH)))) e⟩
 ·rw[vO,(ak.Bv _ _).1]
 ·rw[vP,(ak.Bv _ _).2]
end
theorem B1{σ:St}{a b:I V}(ag:V.fS a=ae)(ah:V.fS b=ae)(n:a=b):dF σ .eq (.ab a) (.ab b)=D ae:=(a7 (by rw[ag,ah];rfl)).trans (bs D (cW n))
theorem yp{σ:St}{a b:I V}(ag:V.fS a=ae)(ah:V.fS b=ae)(n:a≠b):dF σ .eq (.ab a) (.ab b)=D aw:=(a7 (by rw[ag,ah];rfl)).trans (bs D (ek n))
theorem sK{k:O}(h:k=8\/k=9):k∈ [(8:O),9]:=by rcases h with rfl|rfl <;>decide
theorem z5:∀(l:I V),l.filter (fun _=>ae)=l
 |[]=>rfl
 |a::l=>bs (a:: ·) (z5 l)
theorem sc{ck:V->St->aJ (au×St)}{f:V->St->aJ (V×St)}{live:St->au}{σ:St}{r:V->V}:∀(vs cb:I V),(∀v∈vs,∀aF,ck v aF=D (ae,aF))->(∀v∈vs,∀t,f v (σ++t)=D (r v,σ++t))->(∀t,live (σ++t)=ae)->cb.length+vs.length < a4->
  gH σ.length ck f live vs (σ++ [.list cb])=D (σ++ [.list (cb++vs.map r)])
 |[],cb,_,_,aj,_=>(zE (aj _)).trans (by rw[HG,fi])
 |v::vs,cb,aE,bH,aj,hz=>zD (aj _) (aE v (.head _) _) (bH v (.head _) _) fP (c9 (cn ..) hz) (by
   have bh:=sc (ck:=ck) (f:=f) (live:=live) (σ:=σ) (r:=r) vs (cb++ [r v]) (fun w hw=>aE w (.tail _ hw)) (fun w hw=>bH w (.tail _ hw)) aj (by rw[jg,jL];exact hz)
   rw[hR]at bh
   rw[p2];exact bh)
section
variable {xs:I O}{M:O}{T:ak}{S:I (V×V)}{A:bw}{R:be}{at_ g m:H}{σ:St}
theorem World.named(h:World xs M T S A R at_ (g+10) σ){t i:H}{o:cX}(s:gq T t i o)(aj:o.props.length<=4):Ix xs M T S A R at_ g (m+6) 62 [.obj 11,.int t] σ o 24:=by
 obtain⟨k,rest,e,am⟩:=s.aW
 obtain⟨af,u,aB,ns,aT,dR,dq,e2,gw,kF,ih,iG,jA⟩:=h.shown (m:=m) s aj (mask:=24)
 exact⟨af,u,aB,ns,run (m+5) 62 [.obj 11,.int t] σ h.inv.host h.inv.tab.bT (h.row e) cz (jy [8,9] (sK am)) aT,dR,dq,e2,gw,kF,ih,iG,jA⟩
theorem World.readonly(h:World xs M T S A R at_ g σ){t i:H}{o:cX}(s:gq T t i o)(aj:o.props.length<=4):
  ∃cU,az PP (m+3) 70 [.obj 11,.int t] σ=D (.bool (o.props.any fun p=>decide (p.fl &&& 2≠0)),σ++cU):=by
 obtain⟨k,rest,e,am⟩:=s.aW
 have b:(o.props.any fun p=>decide (p.fl &&& 2≠0))=((o.props.map pv).map fun v=> !se 2 v).any id:=by
  rw[oX,oX]
  congr 1
  funext p
  exact R3.trans (bs (!·) DO.symm)
 rw[b]
 exact⟨_,(run (m+2) 70 [.obj 11,.int t] σ h.inv.host h.inv.tab.bT (h.row e) cz (FS [8,9] (sK am)) h.inv.host h.inv.tab.bT h.inv.host (h.shape (m:=m) s) (h.row s.row) hD rfl).1
  (sc (r:=fun v=> .bool (!se 2 v)) (o.props.map pv) [] (fun v aH aF=>rfl)
   (fun v aH aF=>by
    obtain⟨p,_,rfl⟩:=dk.mp aH
    exact jB PP (az PP (m+2)) (.ay .ne (.bin .band (.sub (.aq 2) (.lit (.int 2))) (.aV 80)) (.lit (.int 0))) [D (.obj 11),D (.int t),D (pv p)] _ lh wF rfl)
   (fun t=>rfl) (c9 (cp (gb (g7 _)) (cp (gb (d5 _)) aj)) (by decide)))
  (k4 fP) (pn _ _)⟩
theorem World.keeps(h:World xs M T S A R at_ g σ){t u:H}{k:O}{rest:I V}(e:T.rows[u]?=D (.ab (.int k::rest)))(am:k≠14/\k≠7):az PP (m+1) 69 [.obj 2,.int t,.int u] σ=D (.bool aw,σ):=run m 69 [.obj 2,.int t,.int u] σ h.inv.tab.bT (h.row e) h.inv.tab.bT cz (bf am.2) (h.row e) (yp (h.inv.tab.pure _ (im e)).2 rfl fun q=>by cases q;exact am.1 rfl)
end
inductive Walk(T:ak):I H->I H->I H->I H->H->Prop
 |done {seen out:I H}:Walk T [] seen out out 0
 |leaf {w seen out res:I H} {t n:H} {k:O} {rest:I V}:t∉seen->T.rows[t]?=D (.ab (.int k::rest))->k≠6->k≠10->Walk T w (seen++ [t]) (out++ [t]) res n->Walk T (w++ [t]) seen out res (n+1)
 |bound {w seen out res:I H} {t n p iw:H} {b:O}:t∉seen->T.rows[t]?=D (.ab [.int 10,.int p])->T.bounds[p]?=D b->kY b=iw->iw≠t->p < a4->Walk T (w++ [iw]) (seen++ [t]) out res n->Walk T (w++ [t]) seen out res (n+1)
 |union {w seen out res:I H} {t n:H} {ps:I H}:t∉seen->T.rows[t]?=D (.ab [.int 6,.ab ((cA ps).map .int)])->ps≠ [t]->ps.length < 100->Walk T (w++ps) (seen++ [t]) out res n->Walk T (w++ [t]) seen out res (n+1)
theorem rk{w:I H}:((cA w).map V.int).length=w.length:=by rw[d5,cA,d5]
theorem vk{w v:I H}:(cA w).map V.int++(cA v).map .int=(cA (w++v)).map .int:=by rw[cA,cA,cA,oZ,oZ]
theorem abd:∀ {l eP:I O},l.map V.int=eP.map V.int->l=eP:=fun h=>Rd (fun _ _ e=>V.int.inj e)|>.mp h
section
variable {a b c d:Cell}{σ:St}
theorem wx:(σ++ [a,b,c])[σ.length]?=D a:=by rw[lq (dm _),o2];rfl
theorem Jg:(σ++ [a,b,c])[σ.length+1]?=D b:=by rw[lq (cn ..),tT];rfl
theorem r6:(σ++ [a,b,c])[σ.length+2]?=D c:=by rw[lq (cn ..),tT];rfl
theorem agw:(σ++ [a,b,c]).set σ.length d=σ++ [d,b,c]:=by rw[v6 _ _ (dm _),o2];rfl
theorem agx:(σ++ [a,b,c]).set (σ.length+1) d=σ++ [a,d,c]:=by rw[v6 _ _ (cn ..),tT];rfl
theorem GN:(σ++ [a,b,c]).set (σ.length+2) d=σ++ [a,b,d]:=by rw[v6 _ _ (cn ..),tT];rfl
end
noncomputable abbrev Eh:I KK.S:=[.set 5 (.b6 (.aq 0) 26 [.pop (.aq 4)]),.iff (.ay .mem (.aq 5) (.aq 3)) [.cont] [],.fG (.aq 3) (.aq 5) (.lit (.int 1)),.set 6 (.sub (.attr (.attr (.aq 0) 27) 0) (.aq 5)),.set 7 (.ite (.ay .eq (.sub (.aq 6) (.lit (.int 0))) (.aV 4)) (.sub (.aq 6) (.lit (.int 1))) (.ab [.ite (.ay .mem (.sub (.aq 6) (.lit (.int 0))) (.aV 38)) (.aq 5) (.b6 (.aq 0) 28 [.aq 5])])),.iff (.ay .eq (.aq 7) (.ab [.aq 5])) [.expr (.append (.aq 2) (.aq 5))] [.expr (.extend (.aq 4) (.aq 7))]]
noncomputable def gJ(out seen w:I H):St:=[.list ((cA out).map .int),.dict .i (keys (cA seen)),.list ((cA w).map .int)]
noncomputable def qU(n:H)(x:V)(s5 s6 s7:aJ V):Loc:=[D (.obj 11),D x,D (.obj n),D (.obj (n+1)),D (.obj (n+2)),s5,s6,s7]
noncomputable def z6(m:H):Loc->St->aJ (au×St):=fun J σ=>(aG PP (az PP (m+3)) (.aq 4) J σ).bind fun(v,σ)=>(eh σ v).bind fun t=>D (t,σ)
noncomputable def uH(m:H):Loc->St->Rs:=fun J σ=>cQ PP (az PP (m+3)) Eh J σ
inductive CP(m F:H)(x:V)(s5 s6 s7:aJ V)(σ aF:St)(res:I H):Prop
 |mk (sn:I H) (vJ nM p6:aJ V) (e:l0 (z6 m) (uH m) F (qU σ.length x s5 s6 s7) aF=D (.next,qU σ.length x vJ nM p6,σ++gJ res sn []))
theorem Eg{n F w s o w' dp:H}(dZ:n+1 < F+1)(cL:w+1+100 * (n+1) < 1000)(ci:s+(n+1) < 1000)(fJ:o+(n+1) < 1000)(hw:w'<=w+100)(aR:dp<=o+1):(n < F/\w'+100 * n < 1000/\s+1+n < 1000/\dp+n < 1000)/\w < a4/\s < a4/\o < a4/\w' < a4:=
 have k:1000 < a4:=by decide
 have e:w+1+100 * (n+1)=w+100+100 * n+1:=by rw[akr,<-jK,jL (w+1),jL w 1 100,jL _ 1]
 have q:w'+100 * n < 1000:=c9 (rU hw _) (qh (by rw[e]at cL;exact cL))
 have lt:∀ {a b:H},a+b < 1000->a < a4:=fun h=>fN (c9 (cn ..) h) k
 ⟨⟨akn dZ,q,by rw[jL];exact ci,c9 (rU aR n) (by rw[jL];exact fJ)⟩,qh (lt cL),lt ci,lt fJ,lt q⟩
section
variable {xs:I O}{M:O}{T:ak}{S:I (V×V)}{A:bw}{R:be}{at_ g m:H}{σ:St}{x:V}{s5 s6 s7:aJ V}
theorem abL{seen:I H}{t:H}(h:t∉seen):dI (keys (cA seen)) (.int t) (.int 1)=keys (cA (seen++ [t])):=by
 rw[Fk]
 unfold fU
 rw[bz (fun q=>h (Bg.mp q)),cA,cA,oZ]
 rfl
theorem Ei(h:World xs M T S A R at_ g σ){w seen out:I H}{t:H}{r:V}(aP:t∉seen)(bg:T.rows[t]?=D r)(hw:w.length < a4)(aY:seen.length < a4):
  gd PP (az PP (m+3)) (Eh.drop 4) (qU σ.length x (D (.int t)) (D r) s7) (σ++gJ out (seen++ [t]) w) fun f bt af=>uH m (qU σ.length x s5 s6 s7) (σ++gJ out seen (w++ [t]))=D (f,bt,af):=by
 have aX:(σ++gJ out seen (w++ [t])).set (σ.length+2) (.list ((cA (w++ [t])).map V.int).dropLast)=σ++gJ out seen w:=by
  rw[show((cA (w++ [t])).map V.int).dropLast=(cA w).map .int from by rw[<-vk];exact ajQ]
  exact GN
 have bZ:(σ++gJ out seen w).set (σ.length+1) (.dict .i (dI (keys (cA seen)) (.int t) (.int 1)))=σ++gJ out (seen++ [t]) w:=by rw[abL aP];exact agx
 have go:=g4 PP (az PP (m+3)) Eh (qU σ.length x s5 s6 s7) (σ++gJ out seen (w++ [t])) (h.more _).inv.host r6 (by rw[rk,fw];exact hw) (v:= .int t) (by rw[<-vk];exact aj0) (KY (m:=m+2))
 rw[aX]at go
 have go:=(go (vb Jg rfl ((AO ..).trans (bz fun q=>aP (Bg.mp q))))).1 Jg (ei.mpr ⟨rfl,cW (by rw[Mx,cA,d5];exact aY)⟩)
 rw[bZ]at go
 exact go (h.more _).inv.host (h.more _).inv.tab.bT ((h.more _).row bg)
theorem Ej{F:H}{w seen out res:I H}{t:H}{bn:St}{vJ nM p6:aJ V}(ax:uH m (qU σ.length x s5 s6 s7) (σ++gJ out seen (w++ [t]))=D (.next,qU σ.length x vJ nM p6,bn))(hz:w.length < a4)(bh:CP m F x vJ nM p6 σ bn res):CP m (F+1) x s5 s6 s7 σ (σ++gJ out seen (w++ [t])) res:=by
 obtain⟨sn,nR,jE,oP,e⟩:=bh
 have tH:eh (σ++gJ out seen (w++ [t])) (.obj (σ.length+2))=D ae:=(Hb r6 (by rw[rk,fw];exact hz)).trans (by rw[<-vk];cases(cA w).map V.int <;>rfl)
 exact⟨sn,nR,jE,oP,Qs (c:=z6 m) (b:=uH m) (av rfl (av tH rfl)) ax e⟩
theorem Zk{w seen out res:I H}{n:H}(h:World xs M T S A R at_ g σ)(hw:Walk T w seen out res n):∀(F:H) (s5 s6 s7:aJ V),n < F->w.length+100 * n < 1000->seen.length+n < 1000->out.length+n < 1000->CP m F x s5 s6 s7 σ (σ++gJ out seen w) res:=by
 induction hw with
 |@done seen out=>
  intro F s5 s6 s7 dZ _ _ _
  cases F with
  |zero=>exact absurd dZ (v7 _)
  |succ F=>exact⟨seen,s5,s6,s7,Qt (c:=z6 m) (b:=uH m) (av rfl (av (Hb r6 (by decide)) rfl))⟩
 |@leaf w seen out res t n k rest aZ bg c7 mv hw bh=>
  intro F s5 s6 s7 dZ cL ci fJ
  cases F with
  |zero=>exact absurd dZ (yI _)
  |succ F=>
  rw[fw]at cL
  obtain⟨⟨a1,c1,e0,iv⟩,d7,dM,pk,kl⟩:=Eg dZ cL ci fJ (cn w.length 100) (dm _)
  have hm:=h.more (gJ out (seen++ [t]) w)
  have zv:=Lu (m:=m+1) hm.inv.host (V0 (m:=m+1) hm.inv.tab bg mv (h.inv.a8.lt bg))
  have dP:(σ++gJ out (seen++ [t]) w).set σ.length (.list ((cA out).map V.int++ [.int t]))=σ++gJ (out++ [t]) (seen++ [t]) w:=agw.trans (by rw[show [V.int (t:H)]=(cA [t]).map V.int from rfl,vk];rfl)
  have go:=Ei (m:=m) (x:=x) (s5:=s5) (s6:=s6) (s7:=s7) h (out:=out) aZ bg d7 dM cz (bf c7) cz
  refine Ej ?_ d7 (bh F (D (.int t)) (D (.ab (.int k::rest))) (D (.ab [.int t])) a1 c1 (by rw[jg];exact e0) (by rw[jg];exact iv))
  rw[<-dP]
  by_cases q:k∈ [(11:O),12]
  ·exact go (jy [11,12] q) (B1 rfl rfl rfl) wx wx (by rw[rk];exact pk)
  ·exact go (je [11,12] q) hm.inv.host zv (B1 rfl rfl rfl) wx wx (by rw[rk];exact pk)
 |@bound w seen out res t n p iw b aZ bg ax Xa cc ao hw bh=>
  intro F s5 s6 s7 dZ cL ci fJ
  cases F with
  |zero=>exact absurd dZ (yI _)
  |succ F=>
  rw[fw]at cL
  obtain⟨⟨a1,c1,e0,iv⟩,d7,dM,pk,kl⟩:=Eg (w':=(w++ [iw]).length) dZ cL ci fJ (by rw[jg];exact qg (by decide) _) (eJ out.length)
  have hm:=h.more (gJ out (seen++ [t]) w)
  have zv:=Lu (m:=m+1) hm.inv.host (V1 (m:=m+1) hm.inv.tab bg ax (h.inv.a8.lt bg) ao)
  rw[show(if b < 0\/b=0 then(1:O)else b)=iw from Xa]at zv
  have dP:(σ++gJ out (seen++ [t]) w).set (σ.length+2) (.list ((cA w).map V.int++ [.int iw]))=σ++gJ out (seen++ [t]) (w++ [iw]):=GN.trans (by rw[show [V.int (iw:H)]=(cA [iw]).map V.int from rfl,vk];rfl)
  refine Ej ?_ d7 (bh F (D (.int t)) (D (.ab [.int 10,.int p])) (D (.ab [.int iw])) a1 c1 (by rw[jg];exact e0) iv)
  rw[<-dP]
  exact Ei (m:=m) (x:=x) (s5:=s5) (s6:=s6) (s7:=s7) h (out:=out) aZ bg d7 dM cz (bf (by decide)) cz (je [11,12] (by decide)) hm.inv.host zv (yp rfl rfl fun q=>by cases q;exact cc rfl) r6 rfl r6 (by rw[rk];rw[jg]at kl;exact kl)
 |@union w seen out res t n ps aZ bg cc aaB hw bh=>
  intro F s5 s6 s7 dZ cL ci fJ
  cases F with
  |zero=>exact absurd dZ (yI _)
  |succ F=>
  rw[fw]at cL
  obtain⟨⟨a1,c1,e0,iv⟩,d7,dM,pk,kl⟩:=Eg (w':=(w++ps).length) dZ cL ci fJ (by rw[fw];exact qg (kf aaB) _) (eJ out.length)
  have dP:(σ++gJ out (seen++ [t]) w).set (σ.length+2) (.list ((cA w).map V.int++(cA ps).map .int))=σ++gJ out (seen++ [t]) (w++ps):=GN.trans (by rw[vk];rfl)
  refine Ej ?_ d7 (bh F (D (.int t)) (D (.ab [.int 6,.ab ((cA ps).map .int)])) (D (.ab ((cA ps).map .int))) a1 c1 (by rw[jg];exact e0) iv)
  rw[<-dP]
  exact Ei (m:=m) (x:=x) (s5:=s5) (s6:=s6) (s7:=s7) h (out:=out) aZ bg d7 dM cz (eqT rfl) hD (yp (tv _) rfl fun q=>cc (F2 (abd (q:_=(cA [t]).map V.int)))) r6 rfl r6 (by rw[rk,rk,<-fw];exact kl)
theorem World.final(h:World xs M T S A R at_ g σ){t n:H}{res:I H}(hw:Walk T [t] [] [] res n)(aZ:n < 9):∃sn,az PP (m+4) 22 [.obj 11,.int t] σ=D (.obj σ.length,σ++gJ res sn []):=by
 have kV:n < 30000/\1+100 * n < 1000/\0+n < 1000:=⟨fN aZ (by decide),c9 (qg (Rl 100 (o0 aZ)) 1) (by decide),by rw[g7];exact fN aZ (by decide)⟩
 obtain⟨sn,s5,s6,s7,e⟩:=Zk (m:=m) (x:= .int t) h hw 30000 aa aa aa kV.1 kV.2.1 kV.2.2 kV.2.2
 have cH:l0 (z6 m) (uH m) 30000 [D (.obj 11),D (.int t),D (.obj σ.length),D (.obj (σ++ [Cell.list []]).length),D (.obj ((σ++ [Cell.list []])++ [Cell.dict .i []]).length),aa,aa,aa] (((σ++ [Cell.list []])++ [Cell.dict .i []])++ [Cell.list [.int t]])=D (.next,qU σ.length (.int t) s5 s6 s7,σ++gJ res sn []):=by
  rw[hR,hR,fw,fw];exact e
 exact⟨sn,run (m+3) 22 [.obj 11,.int t] σ cH⟩
end
noncomputable def vB:aK:=⟨#[108,101,110,103,116,104]⟩
noncomputable def vC:aK:=⟨#[112,117,115,104]⟩
noncomputable def kG:aK:=⟨#[48]⟩
noncomputable def x4:aK:=⟨#[48,49]⟩
noncomputable def ij:aK:=⟨#[112]⟩
noncomputable def loose(n:aK)(f:H):au:=decide (f &&& 1≠0)||(decide (n=vB)||(decide (n=vC)||decide (n=kG)))
noncomputable def M2:V->au
 |.ab [.str n,_,.int f,_]=>loose n f.toNat
 |_=>aw
noncomputable def cX.plain(o:cX):au:=decide ([o.calls,o.ctors,o.gO]=[V.ab [],V.ab [],V.ab []])
noncomputable def cX.kz(o:cX):au:=o.plain && o.props.all fun p=>loose p.name p.fl
noncomputable def cX.bk(o:cX):Prop:=V.fS [o.calls,o.ctors,o.gO]=ae/\o.props.length<=4/\∀p∈o.props,p.fl &&& 1≠0\/p.name=vB\/p.name=vC\/p.name=kG\/p.name=x4\/p.name=ij
inductive me(T:ak):H->au->Prop
 |e8 {t:H} {k:O} {rest:I V}:T.rows[t]?=D (.ab (.int k::rest))->k≠7->k≠8->k≠9->me T t ae
 |obj {t i:H} {o:cX}:gq T t i o->o.bk->me T t o.kz
inductive jM(T:ak)(x:H)(seen:I H)(k:H)(b:au):Prop
 |mk (res:I H) (n:H) (k3:H->au) (w:Walk T [x] seen [] res n) (aZ:n < k) (aj:res.length < 50) (aR:∀p∈res,me T p (k3 p)) (aI:res.any k3=b)
noncomputable def r5(T:ak)(x:H)(b:au):Prop:=jM T x [] 9 b
noncomputable def u6:I V:=match PP.aV 76 with|some (V.ab l)=>l|_=> []
theorem xC:V.fS u6=ae:=by decide
theorem acf:V.str vB∈u6:=by decide
theorem ach:V.str vC∈u6:=by decide
theorem acc:V.str kG∉u6:=by decide
theorem acd:V.str x4∉u6:=by decide
theorem acg:V.str ij∉u6:=by decide
section
variable {xs:I O}{M:O}{T:ak}{S:I (V×V)}{A:bw}{R:be}{at_ g m:H}{σ:St}
noncomputable abbrev Fy:E:= .or [.ay .ne (.bin .band (.sub (.aq 3) (.lit (.int 2))) (.aV 75)) (.lit (.int 0)),.ay .mem (.sub (.aq 3) (.lit (.int 0))) (.aV 76),.call 28 [.sub (.aq 3) (.lit (.int 0))]]
theorem acm{p:fy}{a b c:aJ V}(ao:p.fl &&& 1≠0\/p.name=vB\/p.name=vC\/p.name=kG\/p.name=x4\/p.name=ij):∃cU,aG PP (az PP (m+1)) Fy [a,b,c,D (pv p)] σ=D (.bool (loose p.name p.fl),σ++cU):=by
 have go:=jB PP (az PP (m+1)) Fy [a,b,c,D (pv p)] σ lh wF
 unfold loose
 by_cases q:p.fl &&& 1≠0
 ·rw[cW q]
  exact⟨[],(go (neT (dB q))).trans (by rw[fi];rfl)⟩
 ·have go:=go (k7 (bs l3 (QR.mp q))) cz
  have ao:=ao.resolve_left q
  rw[ek q,Ch]
  obtain⟨nm,ty,fl,k⟩:=p
  rcases ao with e|e|e|e|e <;>cases e
  ·exact⟨[],(go (FK xC acf)).trans (by rw[fi];rfl)⟩
  ·exact⟨[],(go (FK xC ach)).trans (by rw[fi];rfl)⟩
  ·exact⟨_,go (A3 xC acc) cz WT⟩
  ·exact⟨_,go (A3 xC acd) cz WU⟩
  ·exact⟨_,go (A3 xC acg) cz WV⟩
theorem Wz{o:cX}:of σ o.row (D 2) (D 5)=D (.ab [o.calls,o.ctors,o.gO]):=rfl
theorem aco{o:cX}(h:o.props.length<=4):([]:I V).length+(o.props.map pv).length < a4:=c9 (cp (gb (g7 _)) (cp (gb (d5 _)) h)) (by decide)
theorem World.acn(h:World xs M T S A R at_ g σ){t:H}{b:au}(aj:me T t b):∃cU,az PP (m+3) 63 [.obj 11,.int t] σ=D (.bool b,σ++cU):=by
 have go:=fun{k rest} (e:T.rows[t]?=D (.ab (.int k::rest)))=>run (m+2) 63 [.obj 11,.int t] σ h.inv.host h.inv.tab.bT (h.row e) cz
 cases aj with
 |@e8 k rest e hy iX ZF=>exact⟨[],(go e (adf [8,9,7] (yF iX (yF ZF (yF hy nX))))).trans (by rw[fi])⟩
 |@obj i o s am=>
  obtain⟨k,rest,e,Aq⟩:=s.aW
  obtain⟨ao,fW,sG⟩:=am
  have go:=go e (FS [8,9,7] (tS [7] (sK Aq))) h.inv.host h.inv.tab.bT h.inv.host (h.shape (m:=m) s) (h.row s.row) Wz
  unfold cX.kz
  by_cases q:o.plain=ae
  ·obtain⟨cU,aE⟩:=sb (ck:=fun v aF=>gC PP (az PP (m+2)) aa [D (.obj 11),D (.int t),D o.row,D v] aF)
    (f:=fun v aF=>aG PP (az PP (m+2)) Fy [D (.obj 11),D (.int t),D o.row,D v] aF)
    (live:=fun _=>ae) (σ:=σ) (c:=fun _=>ae) (r:=fun v=> .bool (M2 v)) (o.props.map pv) [] [] (fun v _ t=>⟨[],by rw[fi];rfl⟩)
    (fun v aH _ eF=>by
     obtain⟨p,aay,rfl⟩:=dk.mp aH
     exact acm (m:=m+1) (sG p aay)) (fun _=>rfl) (aco fW)
   rw[z5]at aE
   have eq:dF σ .ne (.ab [o.calls,o.ctors,o.gO]) (.ab [.ab [],.ab [],.ab []])=D aw:=bs (tW (!·)) (B1 (σ:=σ) ao (by decide) (gy q))
   rw[q,Bool.true_and,show(o.props.all fun p=>loose p.name p.fl)=((o.props.map pv).map M2).all id from by rw[v4,v4];rfl]
   exact⟨_,(go eq hD rfl).1 aE (k4 qV) (pn _ _)⟩
  ·have eq:dF σ .ne (.ab [o.calls,o.ctors,o.gO]) (.ab [.ab [],.ab [],.ab []])=D ae:=bs (tW (!·)) (yp (σ:=σ) ao (by decide) fun e=>q (cW e))
   rw[QO.mpr q]
   exact⟨[],(go eq).trans (by rw[fi];rfl)⟩
noncomputable def M0(k3:H->au):V->V
 |.int i=> .bool (k3 i.toNat)
 |_=> .none
theorem World.acw(h:World xs M T S A R at_ g σ){t:H}{b:au}(aY:r5 T t b):∃cU,az PP (m+5) 64 [.obj 11,.int t] σ=D (.bool b,σ++cU):=by
 obtain⟨res,n,k3,hw,aZ,bg,aj,rfl⟩:=aY
 obtain⟨sn,e⟩:=h.final (m:=m) hw aZ
 have ug:(σ++gJ res sn [])[σ.length]?=D (.list ((cA res).map .int)):=wx
 have bZ:((cA res).map V.int).map (M0 k3)=res.map fun p=>V.bool (k3 p):=by unfold cA;rw[iK,iK];rfl
 obtain⟨cU,aE⟩:=sb (ck:=fun v aF=>gC PP (az PP (m+4)) aa [D (.obj 11),D (.int t),D v] aF)
  (f:=fun v aF=>aG PP (az PP (m+4)) (.call 63 [.aq 0,.aq 2]) [D (.obj 11),D (.int t),D v] aF)
  (live:=eQ (σ++gJ res sn []) (.obj σ.length)) (σ:=σ++gJ res sn []) (c:=fun _=>ae) (r:=M0 k3) ((cA res).map .int) [] [] (fun v _ t=>⟨[],by rw[fi];rfl⟩)
  (fun v aH _ eF=>by
   obtain⟨i,hi,rfl⟩:=dk.mp aH
   obtain⟨p,ao,rfl⟩:=dk.mp hi
   obtain⟨cU,e⟩:=World.acn (m:=m+1) ((h.more (gJ res sn [])).more eF) (aj p ao)
   exact⟨cU,jB PP (az PP (m+4)) (.call 63 [.aq 0,.aq 2]) [D (.obj 11),D (.int t),D (.int (p:H))] _ e⟩)
  (fun t=>by
   unfold eQ
   dsimp only
   rw[ug,e4 ug]
   exact cW rfl)
  (c9 (cp (gb (g7 _)) (cp (gb rk) (kf bg))) (by decide))
 rw[z5,bZ]at aE
 rw[show res.any k3=(res.map k3).any id from by rw[oX];rfl]
 exact⟨_,((run (m+4) 64 [.obj 11,.int t] σ e (sM ug)).1 aE (k4 qV) (pn _ _)).trans (by rw[hR])⟩
theorem World.adu(h:World xs M T S A R at_ g σ){t i:H}{o:cX}(s:gq T t i o)(ah:t≠2):az PP (m+2) 21 [.obj 2,.int t] σ=D (.bool aw,σ):=by
 obtain⟨k,rest,e,Aq⟩:=s.aW
 have no:∀y:O,y∉ [(8:O),9]->k≠y:=fun y bo q=>bo (q▸sK Aq)
 have n:∀i∈ [0,1],t≠i:=fun i hi q=>by
  have:=h.inv.a8.oA (i:=i) ((by decide:∀i∈ [0,1],i∈ [0,1,2,3,4,5,6,7]) i hi)
  subst q
  exact no 1 (by decide) (bD ((gg e).symm.trans this))
 have YW:az PP (m+1) 19 [.obj 2,.int t] σ=D (.int 7,σ):=run m 19 [.obj 2,.int t] σ h.inv.tab.bT (h.row e) cz (bf (no 1 (by decide))) (bf (no 2 (by decide))) (jy [8,9,11,12,13] (tS [11,12,13] (sK Aq)))
 have nC:az PP (m+1) 20 [.int 7] σ=D (.bool aw,σ):=run m 20 [.int 7] σ (bf (by decide)) (bf (by decide)) (bf (by decide))
 exact(run (m+1) 21 [.obj 2,.int t] σ (Og (m:=m) h.inv.tab e (no 6 (by decide)) ah (h.inv.a8.lt e)) (show dd σ (.ab [.int t])=D [.int t]from rfl)).2 rfl h.inv.tab.bT (h.row e)
  (bf (dB (n 1 (by decide)))) (bf (dB (n 0 (by decide)))) YW nC cz (bf (no 10 (by decide))) cz (bf (no 15 (by decide))) cz (bf (no 16 (by decide))) cz (bf (no 19 (by decide))) cz (bf (no 7 (by decide))) cz (bf (no 17 (by decide))) rfl
end
noncomputable def ez(pid over:H)(nm:O)(goal:H)(opt ro:O):V:= .ab [.int 17,.int pid,.int over,.int nm,.int goal,.int opt,.int ro]
noncomputable def gD(s p:H):V:= .ab [.int 15,.int s,.int p]
theorem GA(s p:H):wn (gD s p):=⟨rfl,rfl,15,_,rfl,fun _ _=>⟨15,_,rfl,by decide,fun q=>absurd q (by decide),by show 3<=50;decide⟩,fun q=>absurd q (by decide)⟩
theorem aig(R:be)(a b:I O):told R (a++b)=told R a++told R b:=by unfold told;split;exact oZ;rfl
theorem P7(R:be):told R []=[]:=by unfold told;split <;>rfl
theorem Ha{R R':be}(h:R'.df=R.df)(ah:R'.at_=R.at_)(a:I O):told R' a=told R a:=by unfold told;rw[h,ah]
theorem el.nil{R R':be}(k:el R R'):el (R.say []) R':=⟨by rw[k.ba];exact(fi _).symm.trans (bs _ (P7 R).symm),k.df,k.at_⟩
theorem el.say{R cv:be}{a:I O}(k:el (R.say a) cv)(b:I O):el (R.say (a++b)) (cv.say b):=⟨by show cv.ba++told cv b=R.ba++told R (a++b);rw[k.ba,Ha (R:=R) k.df k.at_,aig,<-hR];rfl,k.df,k.at_⟩
theorem el.more{R cv b2:be}{a b:I O}(k:el (R.say a) cv)(cZ:el (cv.say b) b2):el (R.say (a++b)) b2:=(k.say b).trans cZ
theorem TX{m n:H}(h:n<=6):m+(53 - 8 * n)+8 * n+7=m+60:=by
 rw[jK m,Nat.sub_add_cancel (cp (Rl 8 h) (by decide))]
inductive yZ(xs:I O)(M:O)(T:ak)(S:I (V×V))(R:be)(at_ g m f:H)(args:I V)(v:V)(σ:St):Prop
 |mk (af:St) (aB:ak) (A':bw) (R':be) (e:az PP m f args σ=D (v,af)) (w:World xs M aB S A' R' at_ g af) (l:T.bJ aB) (k:el R R')
inductive yY(xs:I O)(M:O)(T:ak)(S:I (V×V))(R:be)(at_ g m f:H)(args:I V)(v:V)(σ:St):Prop
 |mk (af:St) (A':bw) (R':be) (e:az PP m f args σ=D (v,af)) (w:World xs M T S A' R' at_ g af) (k:el R R')
section
variable {xs:I O}{M:O}{T aB:ak}{S:I (V×V)}{A:bw}{R:be}{at_ g m n:H}{σ aC:St}
theorem World.zk(h:World xs M T S A R at_ (g+50) σ){s t:H}{b:au}{jn:H}(he:cy T M S n s t=D (b,jn))(aE:jn<=50)(aZ:n<=6):yY xs M T S R at_ g (m+60) 32 [.obj 12,.int s,.int t] (.bool b) σ:=by
 obtain⟨af,A',R',e,w,k⟩:=World.ask (m:=m+(53 - 8 * n)) h he aE (cp aZ (by decide))
 rw[TX aZ]at e
 exact⟨af,A',R',e,w,k⟩
theorem World.Bq(h:World xs M T S A R at_ g σ){t:H}{r:V}(e:T.rows[t]?=D r):T.pos r=t/\gi T r σ=σ:=⟨mJ h.inv.tab.nodup (ak.pos_at (im e)) e,a7 (im e)⟩
theorem World.MU(h:World xs M T S A R at_ g σ):T.rows.length < a4:=fN h.inv.a8.len (by decide)
theorem World.Br(h:World xs M T S A R at_ g σ){t:H}{r:V}(e:T.rows[t]?=D r):az PP (m+1) 3 [.obj 2,r] σ=D (.int (t:H),σ):=by
 obtain⟨hn,gR⟩:=h.inv.tab.pure _ (im e)
 have p:=rv (m:=m) h.inv.tab hn gR h.MU
 rw[(h.Bq e).1,(h.Bq e).2]at p;exact p
theorem World.own(h:World xs M T S A R at_ g σ){P pid:H}(e:T.rows[P]?=D (.ab [.int 10,.int pid])):az PP (m+2) 59 [.obj 2,.int pid] σ=D (.int (P:H),σ):=run (m+1) 59 [.obj 2,.int pid] σ h.inv.tab.bT (h.Br (m:=m) e)
inductive ph(m:H)(opt:O)(goal:H)(σ:St):H->St->Prop
 |same:opt≠1->ph m opt goal σ goal σ
 |more {want:H} {aC:St}:opt=1->σ[11]?=D (.inst 6 sH)->az PP (m+60) 15 [.obj 2,.int goal] σ=D (.int (want:H),aC)->ph m opt goal σ want aC
noncomputable def mV(du:ak)(M:O)(S:I (V×V))(over:H)(o:cX)(d7:au):Prop:=∀(aB:ak) (u:H) (ns:I H),du.bJ aB->cP aB->aB.rows.Nodup->iR aB u ns->ns.length<=4->ns.Pairwise (· < ·)->(∀x,x∈ns↔∃p∈o.props,p.fl &&& 24=0/\aB.rows[x]?=D (eX p.name))->∃c,c<=50/\cy aB M S 6 over u=D (d7,c)
theorem JC{t pid over goal want:H}{nm opt ro:O}(hw:ph m opt goal σ want aC)(h0:σ[12]?=D (.inst 5 (g0 A R))):
  gd PP (az PP (m+60)) (Dp.drop 2) [D (.obj 12),D (.int t),D (ez pid over nm goal opt ro),D (.obj 11),D (.int want),aa,aa] aC (nv (m+60) 71 [.obj 12,.int t,ez pid over nm goal opt ro] σ):=by
 have go:=run (m+60) 71 [.obj 12,.int t,ez pid over nm goal opt ro] σ h0 p3
 cases hw with
 |same q=>exact go (bf q) vG
 |more q bu e=>exact go (eqT q) bu vG e
inductive Sr(xs:I O)(M:O)(T:ak)(S:I (V×V))(R:be)(at_ g m t over:H)(d7:au)(aC:St):Prop
 |mk (bn ct:St) (u:H) (eK:ak) (i5:bw) (gA:be) (aT:az PP (m+60) 62 [.obj 11,.int t] aC=D (.int (u:H),bn)) (bZ:az PP (m+60) 32 [.obj 12,.int over,.int u] bn=D (.bool d7,ct)) (w:World xs M eK S i5 gA at_ g ct) (l:T.bJ eK) (k:el R gA)
theorem World.JD(h:World xs M T S A R at_ (g+60) aC){t i:H}{o:cX}(s:gq T t i o)(aj:o.props.length<=4){over:H}{d7:au}(mw:mV T M S over o d7):Sr xs M T S R at_ g m t over d7 aC:=by
 obtain⟨bn,u,eK,ns,aT,bE,ci,gE,cZ,Hi,_,_,ag0⟩:=World.named (g:=g+50) (m:=m+54) h s aj
 obtain⟨c,aE,he⟩:=mw eK u ns ci bE.inv.a8 bE.inv.tab.nodup gE cZ ag0 Hi
 obtain⟨ct,i5,gA,bZ,cG,fY⟩:=bE.zk (m:=m) he aE (dm _)
 exact⟨bn,ct,u,eK,i5,gA,aT,bZ,cG,ci,fY⟩
theorem World.JB(h:World xs M T S A R at_ (g+60) aC){t i:H}{o:cX}(s:gq T t i o)(aj:o.props.length<=4){pid over goal want:H}{nm opt ro:O}
  (hw:ph m opt goal σ want aC) (h0:σ[12]?=D (.inst 5 (g0 A R))) (mw:mV T M S over o aw):yZ xs M T S R at_ g (m+61) 71 [.obj 12,.int t,ez pid over nm goal opt ro] (.bool aw) σ:=by
 obtain⟨bn,ct,u,eK,i5,gA,aT,bZ,w,l,k⟩:=h.JD (m:=m) s aj mw
 exact⟨ct,eK,i5,gA,JC hw h0 h.dJ lh aT bZ,w,l,k⟩
noncomputable def nb(ro:O)(o:cX):I O:=if ro=1 then []else [3]++(if o.props.any (fun p=>decide (p.fl &&& 2≠0))then [4]else [])
theorem Kl{ro:O}{o:cX}(q:ro=1):nb ro o=[]:=a7 q
theorem DS{ro:O}{o:cX}(q:ro≠1){b:au}(h:(o.props.any fun p=>decide (p.fl &&& 2≠0))=b):nb ro o=[3]++if b then [4]else []:=(bz q).trans (by rw[h])
theorem World.V3(h:World xs M T S A R at_ (g+120) aC){t i:H}{o:cX}(s:gq T t i o)(aj:o.props.length<=4){pid over goal want P mem:H}{nm opt ro:O}{dM:au}{fp er:O}{rw OG:I V}
  (hw:ph m opt goal σ want aC) (h0:σ[12]?=D (.inst 5 (g0 A R))) (mw:mV T M S over o ae)
  (ko:T.rows[P]?=D (.ab [.int 10,.int pid])) (em:T.rows[mem]?=D (gD t P)) (aI:∃c,c<=50/\cy T M S 6 mem want=D (dM,c)) (z0:T.rows[want]?=D (.ab (.int fp::rw))) (EL:fp∈ [(1:O),3,4,6]) (cc:mem≠want) (jt:want≠13)
  (hh:T.rows[over]?=D (.ab (.int er::OG))) (xh:er≠14/\er≠7):yZ xs M T S (R.say (if dM then nb ro o else [])) at_ g (m+61) 71 [.obj 12,.int t,ez pid over nm goal opt ro] (.bool dM) σ:=by
 refine cps fun G bV=> ?_
 obtain⟨wf,bn,u,eK,ht,b2,aT,aX,w,l,k⟩:=World.JD (g:=g+60) (m:=m) h s aj mw
 obtain⟨c,aE,he⟩:=aI
 have s2:=s.le l
 have vq:=aeG (m:=m+58) w.inv.tab w.inv.host (row:=gD t P) rfl rfl w.MU
 rw[(w.Bq (l.row em)).1,(w.Bq (l.row em)).2]at vq
 obtain⟨ct,i5,gA,bZ,cG,fY⟩:=World.zk (g:=g+10) (m:=m) w (zj l (gW.refl S) (dm 6) mem want _ he) aE (dm _)
 have dy:=(k.trans fY).nil
 have go:=JC (t:=t) (pid:=pid) (over:=over) (nm:=nm) (ro:=ro) hw h0 h.dJ lh aT aX w.inv.host w.inv.host hD (w.own (m:=m+58) (l.row ko)) vq w.dJ
 cases dM with
 |false=>exact bV ⟨ct,eK,i5,gA,go bZ,cG.less (cn ..),l,dy⟩
 |true=>
  obtain⟨kt,oL,wT,sE⟩:=s2.aW
  have Eu:gd PP (az PP (m+60)) (Dp.drop 6) [D (.obj 12),D (.int t),D (ez pid over nm goal opt ro),D (.obj 11),D (.int want),D (.int mem),aa] ct (nv (m+60) 71 [.obj 12,.int t,ez pid over nm goal opt ro] σ):=by
   by_cases q:opt=0
   ·exact go bZ p3 (eqT q) cG.inv.host cG.inv.tab.bT (cG.row wT) cz (FS [8,9] (sK sE))
   ·exact go bZ p3 (bf q)
  by_cases q:ro=1
  ·exact bV ⟨ct,eK,i5,gA,Eu p4 (k7 q),cG.less (cn ..),l,by rw[a7 rfl,Kl q];exact dy⟩
  ·obtain⟨iq,SU,dP,eH,pM⟩:=World.dC (g:=g+8) (m:=m+51) cG (l.row em) (l.row z0) EL cc jt
   have j0:=eH.keeps (m:=m+59) (t:=t) (l.row hh) xh
   obtain⟨cU,zX⟩:=eH.readonly (m:=m+57) s2 aj
   have u0:=dy.more pM
   have Lc:gd PP (az PP (m+60)) [.iff (.and [.not (.aq 6),.call 70 [.aq 3,.aq 1]]) [.expr (.b6 (.aq 0) 47 [.aV 78])] []] [D (.obj 12),D (.int t),D (ez pid over nm goal opt ro),D (.obj 11),D (.int want),D (.int mem),D (.bool aw)] iq fun f J af=>match f with
     |.next=>az PP (m+61) 71 [.obj 12,.int t,ez pid over nm goal opt ro] σ=D (.bool ae,af)|.brk=>True|.cont=>True|.ret v=>nv (m+60) 71 [.obj 12,.int t,ez pid over nm goal opt ro] σ (.ret v) J af:=by
    by_cases z:ro=0
    ·exact Eu p4 (neT q) dP p4 (eqT z) eH.inv.host lh j0
    ·exact Eu p4 (neT q) dP p4 (bf z)
   cases As:(o.props.any fun p=>decide (p.fl &&& 2≠0))with
   |false=>
    rw[As]at zX
    exact bV ⟨iq++cU,eK,i5,SU,Lc zX,(eH.more cU).less (cn ..),l,by rw[a7 rfl,DS q As];exact u0⟩
   |true=>
    rw[As]at zX
    obtain⟨iN,hL,gk⟩:=World.note (g:=g+7) (m:=m+58) (eH.more cU) 4
    exact bV ⟨iN,eK,i5,_,Lc zX (eH.more cU).dJ hL,gk.less (cn ..),l,by rw[a7 rfl,DS q As];exact u0.say [4]⟩
end
noncomputable def NP(C:Cl)(g6:I KK.S)(ar:ev->Loc->St->Prop):ev->Loc->St->Prop:=fun f J σ=>match f with
 |.next=>gd PP C g6 J σ ar
 |.brk=>ar .brk J σ
 |.cont=>ar .cont J σ
 |.ret v=>ar (.ret v) J σ
noncomputable def KS:I V:=[V.ab [],V.ab [],V.ab [],V.ab [],V.ab []]
noncomputable def cX.empty(o:cX):au:=decide ([V.ab (o.props.map pv),o.calls,o.ctors,o.gO,o.mz]=KS)
inductive SA(xs:I O)(M:O)(T:ak)(S:I (V×V))(A:bw)(R:be)(at_ g m t P:H)(b:V)(σ:St):Prop
 |mk (af:St) (aB:ak) (mem:H) (e:az PP (m+3) 65 [.obj 12,.int t,b] σ=D (.int (mem:H),af)) (w:World xs M aB S A R at_ g af) (l:T.bJ aB) (h:aB.rows[mem]?=D (gD t P)) (p:aB=T.put (gD t P)) (s:bx [2,3,4,5,6,7,8] σ af)
section
variable {xs:I O}{M:O}{T aB:ak}{S:I (V×V)}{A:bw}{R:be}{at_ g m n:H}{σ aC:St}
theorem Kp{o:cX}(ao:o.row.pure=ae):az PP (m+1) 67 [o.row] σ=D (.bool o.empty,σ):=by
 have go:=run m 67 [o.row] σ cz (eqT rfl) (show of σ o.row (D 1) (D 6)=D (.ab [V.ab (o.props.map pv),o.calls,o.ctors,o.gO,o.mz])from rfl)
 by_cases q:[V.ab (o.props.map pv),o.calls,o.ctors,o.gO,o.mz]=KS
 ·rw[show o.empty=ae from cW q]
  exact go (B1 ao rfl q)
 ·rw[show o.empty=aw from ek q]
  exact go (yp ao rfl q)
theorem Kq{k:O}{rest:I V}(am:k≠8):az PP (m+1) 67 [.ab (.int k::rest)] σ=D (.bool aw,σ):=run m 67 [.ab (.int k::rest)] σ cz (bf am)
theorem World.member(h:World xs M T S A R at_ (g+1) σ){t P pid:H}{b:V}{rest:I V}(ax:b= .ab (.int 17:: .int pid::rest))(ko:T.rows[P]?=D (.ab [.int 10,.int pid])):SA xs M T S A R at_ g m t P b σ:=by
 subst ax
 obtain⟨e,w,s⟩:=h.ru (m:=m+1) (GA t P) ⟨fun p q=>(by cases q),fun s p q=>by
  have r:([V.int 15,.int t,.int P]:I V)=[.int 15,.int s,.int p]:=V.ab.inj q
  rw[<-fM (V.int.inj (ej (ej (ej r).2).2).1)]
  exact gh ko⟩
 exact⟨_,_,T.pos (gD t P),run (m+2) 65 [.obj 12,.int t,.ab (.int 17:: .int pid::rest)] σ h.dJ h.inv.host h.inv.tab.bT h.dJ h.inv.host hD (h.own (m:=m) ko) e,w,T.mL _,T.tw _,rfl,s.dC (by decide)⟩
theorem oE{k:O}(h:k=8\/k=9){y:O}(bo:y∉ [(8:O),9]):k≠y:=fun q=>bo (q▸sK h)
theorem World.PZ(h:World xs M T S A R at_ g σ){t pid over goal:H}{nm opt ro:O}{a:V}{k:O}{rest:I V}{iy:au}(aI:a= .ab (.int k::rest))(am:k=8\/k=9)(he:∀m σ,az PP (m+1) 67 [a] σ=D (.bool iy,σ))(aZ:(decide (opt=1) && (iy && decide (M≠4)))=aw):
  gd PP (az PP (m+1)) (zo.drop 2) [D (.obj 12),D (.int t),D a,D (ez pid over nm goal opt ro),aa,aa] σ (nv (m+1) 68 [.obj 12,.int t,a,ez pid over nm goal opt ro] σ):=by
 subst aI
 have go:=run (m+1) 68 [.obj 12,.int t,.ab (.int k::rest),ez pid over nm goal opt ro] σ cz (bf (oE am (by decide))) p3
 by_cases q:opt=1
 ·have ce:=he m σ
  cases iy with
  |false=>exact go (eqT q) ce
  |true=>
   rw[cW q]at aZ
   exact go (eqT q) ce h.dJ (k7 (h.inv.mode.trans (QR.mp (r0 aZ))))
 ·exact go (bf q)
theorem World.PY(h:World xs M T S A R at_ g σ){t pid over goal:H}{nm opt ro:O}{a:V}{k:O}{rest:I V}{iy:au}(aI:a= .ab (.int k::rest))(am:k=8\/k=9)(he:∀m σ,az PP (m+1) 67 [a] σ=D (.bool iy,σ))(aZ:(decide (opt=1) && (iy && decide (M≠4)))=aw)(bg:0<=nm\/opt=2):
  az PP (m+2) 68 [.obj 12,.int t,a,ez pid over nm goal opt ro] σ=D (.bool aw,σ):=by
 have go:=h.PZ (m:=m) (t:=t) (pid:=pid) (over:=over) (goal:=goal) (nm:=nm) (ro:=ro) aI am he aZ BU
 by_cases q:0<=nm
 ·exact go (uJ q)
 ·exact go (oh q) p3 (eqT (bg.resolve_left q))
theorem World.G9(h:World xs M T S A R at_ g σ){t pid over goal mem:H}{nm opt ro:O}{a:V}{k:O}{rest:I V}{iy b:au}{bn:St}(aI:a= .ab (.int k::rest))(am:k=8\/k=9)(he:∀m σ,az PP (m+1) 67 [a] σ=D (.bool iy,σ))(aZ:(decide (opt=1) && (iy && decide (M≠4)))=aw)(bg:nm < 0)(aR:opt≠2)
  (hm:az PP (m+61) 65 [.obj 12,.int t,ez pid over nm goal opt ro] σ=D (.int mem,aC)) (cc:goal≠mem) (Ll:az PP (m+61) 71 [.obj 12,.int t,ez pid over nm goal opt ro] aC=D (.bool b,bn))
  {eK:ak} {ht:bw} {b2:be} {g2 i:H} {o:cX} (bE:World xs M eK S ht b2 at_ g2 bn) (s2:gq eK t i o) (ah:t≠2):
  az PP (m+62) 68 [.obj 12,.int t,a,ez pid over nm goal opt ro] σ=D (.bool b,bn):=by
 have go:=h.PZ (m:=m+60) (t:=t) (pid:=pid) (over:=over) (goal:=goal) (nm:=nm) (ro:=ro) aI am he aZ BU (oh (tQ.mpr bg)) p3 (bf aR) vG hm (bf (dB cc))
 subst aI
 cases b with
 |false=>exact go cz (neT (oE am (by decide))) Ll
 |true=>exact go cz (neT (oE am (by decide))) Ll bE.dJ bE.inv.host (bE.adu (m:=m+59) s2 ah)
noncomputable abbrev PX:I KK.S:=[.iff (.ay .eq (.sub (.aq 2) (.lit (.int 6))) (.lit (.int 0))) [.expr (.b6 (.aq 0) 47 [.aV 79])] [],.set 4 (.sub (.attr (.attr (.attr (.aq 0) 33) 27) 0) (.sub (.aq 3) (.lit (.int 2)))),.iff (.and [.ay .eq (.sub (.aq 4) (.lit (.int 0))) (.aV 77),.call 64 [.attr (.aq 0) 33,.sub (.aq 4) (.lit (.int 1))]]) [.expr (.b6 (.aq 0) 47 [.aV 52])] [],.ret (.lit (.bool ae))]
theorem World.ah7(h:World xs M T S A R at_ (g+2) σ){t pid over goal:H}{nm ro:O}{o:cX}{er:O}{hk:I V}{stays:au}(he:∀m σ,az PP (m+1) 67 [o.row] σ=D (.bool ae,σ))(e9:M≠4)
  (hh:T.rows[over]?=D (.ab (.int er::hk))) (aY:er=14->∃x:H,hk=[.int (x:H)]/\r5 T x stays):
  y7 xs M T S A (R.say ((if o.flag=0 then [11]else [])++(if er=14/\stays=ae then [15]else []))) at_ g (m+62) 68 [.obj 12,.int t,o.row,ez pid over nm goal 1 ro] (.bool ae) σ:=by
 have go:gd PP (az PP (m+61)) PX [D (.obj 12),D (.int t),D o.row,D (ez pid over nm goal 1 ro),aa,aa] σ (NP (az PP (m+61)) (zo.drop 2) (nv (m+61) 68 [.obj 12,.int t,o.row,ez pid over nm goal 1 ro] σ)):=run (m+61) 68 [.obj 12,.int t,o.row,ez pid over nm goal 1 ro] σ cz (bf (by decide)) p3 (eqT rfl) (he (m+60) σ) h.dJ (neT fun q=>e9 (h.inv.mode.symm.trans q))
 refine cps fun G bV=> ?_
 have fin:∀ {aC:St} {cv:be},World xs M T S A cv at_ (g+1) aC->el (R.say (if o.flag=0 then [11]else [])) cv->
   gd PP (az PP (m+61)) (PX.drop 1) [D (.obj 12),D (.int t),D o.row,D (ez pid over nm goal 1 ro),aa,aa] aC (NP (az PP (m+61)) (zo.drop 2) (nv (m+61) 68 [.obj 12,.int t,o.row,ez pid over nm goal 1 ro] σ))->G:=by
  intro aC cv a9 dG go
  by_cases q:er=14
  ·obtain⟨x,rfl,hw⟩:=aY q
   obtain⟨cU,nB⟩:=a9.acw (m:=m+56) hw
   cases stays with
   |true=>
    obtain⟨ct,bZ,cG⟩:=World.note (g:=g) (m:=m+59) (a9.more cU) 15
    exact bV ⟨ct,_,go a9.dJ a9.inv.host a9.inv.tab.bT lh (a9.row hh) cz (eqT q) a9.dJ hD nB (a9.more cU).dJ bZ,cG,by rw[a7 (show er=14/\ae=ae from⟨q,rfl⟩)];exact dG.say [15]⟩
   |false=>exact bV ⟨aC++cU,cv,go a9.dJ a9.inv.host a9.inv.tab.bT lh (a9.row hh) cz (eqT q) a9.dJ hD nB,(a9.more cU).less (eJ _),by rw[bz (show¬(er=14/\aw=ae)from fun z=>nomatch z.2),fi];exact dG⟩
  ·exact bV ⟨aC,cv,go a9.dJ a9.inv.host a9.inv.tab.bT lh (a9.row hh) cz (bf q),a9.less (eJ _),by rw[bz (show¬(er=14/\stays=ae)from fun z=>q z.1),fi];exact dG⟩
 by_cases q:o.flag=0
 ·obtain⟨af,e,w⟩:=World.note (g:=g+1) (m:=m+59) h 11
  exact fin w (by rw[a7 q];exact el.refl _) (go p4 (eqT q) h.dJ e)
 ·exact fin (h.less (eJ _)) (by rw[bz q];exact(el.refl R).nil) (go p4 (bf q))
end
section
variable {xs:I O}{M:O}{T aB:ak}{S:I (V×V)}{A:bw}{R:be}{at_ g m n:H}{σ aC:St}
theorem World.Ua(h:World xs M T S A R at_ (g+1) σ){t:H}{rest:I V}(e:T.rows[t]?=D (.ab (.int 15::rest))):
  y7 xs M T S A (R.say (if M=4 then []else [1])) at_ g (m+10) 32 [.obj 12,.int 0,.int t] (.bool (decide (M≠4))) σ:=by
 refine cps fun G bV=> ?_
 have i:=h.inv
 obtain⟨Bx,hg⟩:=iY (i.a8.oA (i:=0) (by decide))
 have s1:=oO (m:=m+5) i.tab i.host hg (i.a8.good _ _ _ hg (by decide) (by decide)) (i.a8.lt hg)
 have s2:=oO (m:=m+5) i.tab i.host e (i.a8.good _ _ _ e (by decide) (by decide)) (i.a8.lt e)
 have hm:R.mode≠3:=by rw[i.mode];rcases h.mode with q|q|q <;>rw[q] <;>decide
 have no:∀ {k:H},k < 16->(t:O)≠(k:H):=fun am=>dB (gu (i.a8.big e (by decide)) am)
 have r:=h.dJ
 have fin:=fun{v:O} {af} (yh:az PP (m+8) 47 [.obj 12,.int 0,.int t] σ=D (.int v,af))=>run (m+8) 42 [.obj 12,.int 0,.int t] σ (bf (no (k:=0) (by decide)).symm) r s1 r s2 (bf (no (k:=0) (by decide)).symm) r (bf hm) yh
 by_cases q:M=4
 ·have bW:=run (m+6) 48 [.obj 12,.int 0,.int t] σ (bf (no (k:=0) (by decide))) (bf (no (k:=13) (by decide))) (bf (by decide)) (bf (by decide)) (eqT rfl) r (eqT (i.mode.trans q))
  have yh:=run (m+7) 47 [.obj 12,.int 0,.int t] σ bW (uJ (by decide))
  exact bV ⟨σ,R,by rw[ek fun z=>z q];exact run (m+9) 32 [.obj 12,.int 0,.int t] σ (fin yh (bf (by decide)) r (bf (by rw[i.mode,q];decide)) (lL (by decide))),h.less (eJ g),by rw[a7 q];exact(el.refl R).nil⟩
 ·obtain⟨af,en,w⟩:=World.note (m:=m+4) h 1
  have bW:=run (m+6) 48 [.obj 12,.int 0,.int t] σ (bf (no (k:=0) (by decide))) (bf (no (k:=13) (by decide))) (bf (by decide)) (bf (by decide)) (eqT rfl) r (bf fun z=>q (i.mode.symm.trans z)) (bf (no (k:=1) (by decide))) (eqT rfl) (bf (no (k:=2) (by decide))) r en
  have yh:=run (m+7) 47 [.obj 12,.int 0,.int t] σ bW (uJ (by decide))
  exact bV ⟨af,_,by rw[cW q];exact run (m+9) 32 [.obj 12,.int 0,.int t] σ (fin yh (eqT rfl)),w,by rw[bz q];exact el.refl _⟩
theorem World.acJ(h:World xs M T S A R at_ g σ){t pid over goal:H}{nm opt ro:O}(bg:0<=nm\/opt=1):az PP (m+1) 66 [.obj 12,.int t,ez pid over nm goal opt ro] σ=D (.bool aw,σ):=by
 have go:=run m 66 [.obj 12,.int t,ez pid over nm goal opt ro] σ BU
 by_cases q:0<=nm
 ·exact go (uJ q)
 ·exact go (oh q) p3 (eqT (bg.resolve_left q))
noncomputable def n9(M:O)(goal:H)(ro:O):I O:=(if goal=0/\M≠4 then [1]else [])++ [15]++(if ro=1 then [4]else [])
theorem World.acI(h:World xs M T S A R at_ (g+110) σ){t pid over goal cO P mem:H}{nm opt ro:O}{d7 dM:au}(aZ:nm < 0)(aR:opt≠1)(gB:T.rows[cO]?=D (.ab [.int 14,.int t]))(ko:T.rows[P]?=D (.ab [.int 10,.int pid]))(em:T.rows[mem]?=D (gD t P))
  (aI:∃c,c<=50/\cy T M S 6 cO over=D (d7,c)) (bR:if goal=0 then dM=decide (M≠4)else∃c,c<=50/\cy T M S 6 goal mem=D (dM,c)):
  yY xs M T S (R.say (if d7 && dM then n9 M goal ro else [])) at_ g (m+61) 66 [.obj 12,.int t,ez pid over nm goal opt ro] (.bool (d7 && dM)) σ:=by
 refine cps fun G bV=> ?_
 obtain⟨c,aE,he⟩:=aI
 obtain⟨aC,ma,cv,aT,a9,dG⟩:=World.zk (g:=g+60) (m:=m) h he aE (dm _)
 have go:gd PP (az PP (m+60)) (Jm.drop 2) [D (.obj 12),D (.int t),D (ez pid over nm goal opt ro),D (.int cO)] σ (nv (m+60) 66 [.obj 12,.int t,ez pid over nm goal opt ro] σ):=run (m+60) 66 [.obj 12,.int t,ez pid over nm goal opt ro] σ BU (oh (tQ.mpr aZ)) p3 (bf aR) h.dJ h.inv.host h.inv.tab.bT (h.Br (m:=m+59) gB)
 cases d7 with
 |false=>exact bV ⟨aC,ma,cv,go h.dJ lh aT,a9.less (cn ..),dG.nil⟩
 |true=>
  have vd:az PP (m+60) 65 [.obj 12,.int t,ez pid over nm goal opt ro] aC=D (.int mem,aC):=run (m+59) 65 [.obj 12,.int t,ez pid over nm goal opt ro] aC a9.dJ a9.inv.host a9.inv.tab.bT a9.dJ a9.inv.host hD (a9.own (m:=m+57) ko) (a9.Br (m:=m+58) em)
  have fin:∀ {bn:St} {ht:bw} {b2:be},az PP (m+60) 32 [.obj 12,.int goal,.int mem] aC=D (.bool dM,bn)->World xs M T S ht b2 at_ (g+10) bn->(dM=ae->el (R.say (if goal=0/\M≠4 then [1]else [])) b2)->(dM=aw->el R b2)->G:=by
   intro bn ht b2 aX bE cZ fY
   cases dM with
   |false=>exact bV ⟨bn,ht,b2,go h.dJ lh aT a9.dJ vG vd aX,bE.less (cn ..),(fY rfl).nil⟩
   |true=>
    obtain⟨ct,bZ,cG⟩:=World.note (g:=g+9) (m:=m+58) bE 15
    have pM:=(cZ rfl).say [15]
    by_cases q:ro=1
    ·obtain⟨iq,dP,eH⟩:=World.note (g:=g+8) (m:=m+58) cG 4
     exact bV ⟨iq,ht,_,go h.dJ lh aT a9.dJ vG vd aX bE.dJ bZ p4 (eqT q) cG.dJ dP,eH.less (cn ..),(by
      rw[show n9 M goal ro=_++ [4]from bs _ (a7 q)];exact pM.say [4])⟩
    ·exact bV ⟨ct,ht,_,go h.dJ lh aT a9.dJ vG vd aX bE.dJ bZ p4 (bf q),cG.less (cn ..),(by
      rw[show n9 M goal ro=_++ []from bs _ (bz q),fi];exact pM)⟩
  by_cases q:goal=0
  ·rw[a7 q]at bR
   subst q bR
   obtain⟨bn,b2,aX,bE,cZ⟩:=World.Ua (g:=g+59) (m:=m+50) a9 em
   have dy:el (R.say (if M=4 then []else [1])) b2:=dG.nil.more cZ
   refine fin aX (bE.less (qg (by decide) g)) (fun z=> ?_) fun z=> ?_
   ·rw[bz (gy z)]at dy;rw[a7 (show 0=0/\M≠4 from⟨rfl,gy z⟩)];exact dy
   ·rw[a7 (QR.mp (r0 z))]at dy;exact⟨by rw[dy.ba];show R.ba++told R []=_;rw[P7,fi],dy.df,dy.at_⟩
  ·rw[bz q]at bR
   obtain⟨bT,sz,EB⟩:=bR
   obtain⟨bn,ht,b2,aX,bE,cZ⟩:=World.zk (g:=g+10) (m:=m) a9 EB sz (dm _)
   refine fin aX bE (fun _=> ?_) fun _=>dG.trans cZ
   rw[bz (fun z=>q z.1)];exact(dG.trans cZ).nil
end
noncomputable def fZ:H->V
 |0=> .ab [.int 3,.str ⟨#[97]⟩,.int 0]
 |1=> .ab [.int 3,.str ⟨#[98]⟩,.int 0]
 |2=> .ab [.int 4,.int 1,.int 0]
 |3=> .ab [.int 1,.str ⟨#[110,117,108,108]⟩]
 |_=> .ab [.int 1,.str ⟨#[117,110,100,101,102,105,110,101,100]⟩]
noncomputable def AJ:I V:=[fZ 0,fZ 1,fZ 2,fZ 3,fZ 4]
noncomputable def h1(mask i:H):au:=decide (mask / 2 ^ i % 2=1)
noncomputable def zt(mask:H):V->au
 |.int i=>h1 mask i.toNat
 |_=>aw
noncomputable def MA:V->V
 |.int i=>fZ i.toNat
 |_=> .none
theorem rl{p:H->Prop}(h0:p 0)(ag:p 1)(ah:p 2)(aN:p 3)(b1:p 4):∀i,i < 5->p i
 |0,_=>h0
 |1,_=>ag
 |2,_=>ah
 |3,_=>aN
 |4,_=>b1
 |i+5,h=>absurd h (mT.mpr (yH 5 i))
theorem OJ:∀i,i < 5->iT (fZ i):=
 have u:∀ {x:aK},iT (.ab [.int 1,.str x]):=fun{x}=>⟨rfl,rfl,1,_,rfl,fun _ _=>⟨1,_,rfl,by decide,fun q=>absurd q (by decide),by show 1 < 50;decide⟩,fun q=>absurd q (by decide),by decide,by decide⟩
 rl (ry _) (ry _) ⟨rfl,rfl,4,_,rfl,fun _ _=>⟨4,_,rfl,by decide,fun _=>⟨0,rfl,by decide⟩,by show 2 < 50;decide⟩,fun q=>absurd q (by decide),by decide,by decide⟩ u u
theorem xu{T:ak}(b8:cP T)(aZ:T.rows.Nodup){i x:H}(hi:i < 5)(h:T.rows[x]?=D (fZ i)):(16<=x/\i < 3)\/(x=5/\i=3)\/(x=4/\i=4):=rl (p:=fun i=>T.rows[x]?=D (fZ i)->(16<=x/\i < 3)\/(x=5/\i=3)\/(x=4/\i=4)) (fun h=> .inl ⟨b8.big h (by decide),by decide⟩) (fun h=> .inl ⟨b8.big h (by decide),by decide⟩) (fun h=> .inl ⟨b8.big h (by decide),by decide⟩)
  (fun h=> .inr (.inl ⟨mJ aZ h (b8.first 5 (by decide)),rfl⟩)) (fun h=> .inr (.inr ⟨mJ aZ h (b8.first 4 (by decide)),rfl⟩)) i hi h
theorem xv{T:ak}{i x:H}(hi:i < 5)(h:T.rows[x]?=D (fZ i)):∃k rest,T.rows[x]?=D (.ab (.int k::rest))/\k∈ [(1:O),3,4]:=rl (p:=fun i=>T.rows[x]?=D (fZ i)->∃k rest,T.rows[x]?=D (.ab (.int k::rest))/\k∈ [(1:O),3,4]) (fun h=>⟨3,_,h,by decide⟩) (fun h=>⟨3,_,h,by decide⟩) (fun h=>⟨4,_,h,by decide⟩) (fun h=>⟨1,_,h,by decide⟩) (fun h=>⟨1,_,h,by decide⟩) i hi h
noncomputable def md(T:ak)(mask:H)(l:I H):Prop:=∀x,x∈l↔∃i,i < 5/\h1 mask i=ae/\T.rows[x]?=D (fZ i)
theorem md.le{T aB:ak}(h:T.bJ aB)(aZ:aB.rows.Nodup){mask:H}{l:I H}(e:md T mask l)(aA:∀i,i < 5->h1 mask i=ae->∃x:H,T.rows[x]?=D (fZ i)):md aB mask l:=fun x=>(e x).trans ⟨fun⟨i,a,b,c⟩=>⟨i,a,b,h.row c⟩,fun⟨i,a,b,c⟩=>
  have ⟨y,bo⟩:=aA i a b
  ⟨i,a,b,mJ aZ c (h.row bo)▸bo⟩⟩
inductive Su(xs:I O)(M:O)(T:ak)(S:I (V×V))(A:bw)(R:be)(at_ g m mask:H)(σ:St):Prop
 |mk (af:St) (u:H) (aB:ak) (l:I H) (e:az PP (m+5) 76 [.obj 2,.int mask] σ=D (.int (u:H),af)) (w:World xs M aB S A R at_ g af) (le:T.bJ aB) (r:jl aB u l) (hP:l.Pairwise (· < ·)) (ks:md aB mask l)
  (aA:∀i,i < 5->h1 mask i=ae->∃x:H,aB.rows[x]?=D (fZ i)) (s:bx fc σ af) (bounds:aB.bounds=T.bounds) (decls:aB.decls=T.decls) (len:l.length<=5)
theorem uC{a b:H}(h:0 < b)(ah:b < 1000000):hM .fdiv (.int a) (.int (b:H))=D (.int ((a / b:H):O)):=a7 ⟨fv.mpr h,fv.mpr ah⟩
section
variable {xs:I O}{M:O}{T aB:ak}{S:I (V×V)}{A:bw}{R:be}{at_ g m n:H}{σ aC:St}
theorem VQ{C:Cl}{mask i:H}{a c:aJ V}{aF:St}(hi:i < 5):gC PP C (D (.ay .eq (.bin .mod (.bin .fdiv (.aq 1) (.bin .pow (.lit (.int 2)) (.aq 3))) (.lit (.int 2))) (.lit (.int 1)))) [a,D (.int mask),c,D (.int i)] aF=D (h1 mask i,aF):=by
 have p:hM .pow (.int 2) (.int i)=D (.int ((2 ^ i:H):O)):=rl (p:=fun i=>hM .pow (.int 2) (.int i)=D (.int ((2 ^ i:H):O))) rfl rfl rfl rfl rfl i hi
 rw[show h1 mask i=decide (((mask / 2 ^ i % 2:H):O)=1)from kQ.mpr ⟨fun h=>bs l3 h,fM⟩]
 exact runC PP C (D (.ay .eq (.bin .mod (.bin .fdiv (.aq 1) (.bin .pow (.lit (.int 2)) (.aq 3))) (.lit (.int 2))) (.lit (.int 1)))) [a,D (.int mask),c,D (.int i)] aF p (uC (aku (by decide)) (gm (akt (by decide) hi) (by decide))) (A5 (by decide)) rfl
theorem World.kind(h:World xs M T S A R at_ (g+6) σ)(mask:H):Su xs M T S A R at_ g m mask σ:=by
 have og:∀ {v:V},v∈ [V.int 0,.int 1,.int 2,.int 3,.int 4]->∃i:H,i < 5/\V.int i=v:=fun aH=>
  have ⟨i,a,b⟩:=dk.mp (show _∈(gl 5).map fun i:H=>V.int i from aH)
  ⟨i,qe.mp a,b⟩
 have Xb:([V.int 0,.int 1,.int 2,.int 3,.int 4].filter (zt mask))=((gl 5).filter (h1 mask)).map fun i:H=>V.int i:=(Q4 (f:=fun i:H=>V.int i) (p:=zt mask) (l:=gl 5))
 have pG:∀i,i∈(gl 5).filter (h1 mask)↔i < 5/\h1 mask i=ae:=fun i=>HH.trans (and_congr_left fun _=>qe)
 have w0:((gl 5).filter (h1 mask)).length<=5:=Q9 _ _
 have q2:=wO (ck:=fun v aF=>gC PP (az PP (m+4)) (D (.ay .eq (.bin .mod (.bin .fdiv (.aq 1) (.bin .pow (.lit (.int 2)) (.aq 3))) (.lit (.int 2))) (.lit (.int 1)))) [D (.obj 2),D (.int mask),D (.ab AJ),D v] aF)
  (f:=fun v aF=>aG PP (az PP (m+4)) (.b6 (.aq 0) 10 [.sub (.aq 2) (.aq 3)]) [D (.obj 2),D (.int mask),D (.ab AJ),D v] aF)
  (live:=fun _=>ae) (c:=zt mask) (rowf:=MA) (L:=σ.length) (g:=g+1) [.int 0,.int 1,.int 2,.int 3,.int 4] [] σ T rfl h
  (fun v aH _=>by
   obtain⟨i,hi,rfl⟩:=og aH
   exact OJ i hi)
  (fun v aH aF=>by
   obtain⟨i,hi,rfl⟩:=og aH
   exact VQ hi)
  (fun v aH _ T aF g w=>by
   obtain⟨i,hi,rfl⟩:=og aH
   exact jB PP (az PP (m+4)) (.b6 (.aq 0) 10 [.sub (.aq 2) (.aq 3)]) [D (.obj 2),D (.int mask),D (.ab AJ),D (.int i)] aF w.inv.tab.bT (rl (p:=fun i=>ee aF (.ab AJ) (.int i)=D (fZ i)) rfl rfl rfl rfl rfl i hi) (w.Ov (m:=m+3) (OJ i hi)).1)
  (fun _ _ _=>rfl) (by decide)
 rw[Xb,iK,iK,show MA ∘(fun i:H=>V.int i)=fZ from rfl]at q2
 generalize (gl 5).filter (h1 mask)=fl at *
 obtain⟨aC,aE,eo,a9,s1⟩:=q2
 have pE:∀ {i},i∈fl->(T.ho (fl.map fZ)).rows[(T.ho (fl.map fZ)).pos (fZ i)]?=D (fZ i):=fun hi=>ak.pos_at (ak.xY _ _ _ (rT hi))
 have le:=ak.vu (fl.map fZ) T
 have i0:=ak.Bv (fl.map fZ) T
 generalize T.ho (fl.map fZ)=du at *
 have iH:=a9.inv.a8
 have oD:=a9.inv.tab.nodup
 have hm:∀ {x},x∈fl.map (fun i=>du.pos (fZ i))->∃i,i < 5/\h1 mask i=ae/\du.rows[x]?=D (fZ i):=fun aA=>by
  obtain⟨i,hi,rfl⟩:=dk.mp aA
  exact⟨i,((pG i).mp hi).1,((pG i).mp hi).2,pE hi⟩
 have gv:∀ {x i:H},(16<=x/\i < 3)\/(x=5/\i=3)\/(x=4/\i=4)->(x=4\/x=5\/x=6\/x=7\/16<=x)/\x≠2/\x≠6/\x≠7:=fun b=>by
  rcases b with b|b|b
  ·exact⟨.inr (.inr (.inr (.inr b.1))),gu b.1 (by decide),gu b.1 (by decide),gu b.1 (by decide)⟩
  ·rw[b.1];decide
  ·rw[b.1];decide
 have dy:∀ {k:O},k∈ [(1:O),3,4]->k≠2/\k≠8/\k≠6:=fun{k} am=>(by decide:∀k∈ [(1:O),3,4],k≠2/\k≠8/\k≠6) k am
 obtain⟨bn,u,aB,l,fK,eu,eG,nQ,nR,jE,oP,vO,vP,vN,Hf⟩:=World.ys (m:=m) (a9.more [.list ([]++fl.map fun i=> .int (du.pos (fZ i):H))]) (pv:= .obj σ.length) (ts:=fl.map fun i=>du.pos (fZ i))
  (.inr (.inr ⟨_,rfl,by rw[<-eo,iK];exact fP⟩))
  (fun t aP=>by
   obtain⟨i,ag,_,e⟩:=hm aP
   obtain⟨k,rest,gB,am⟩:=xv ag e
   exact vm iH gB (dy am).2.2 (gv (xu iH oD ag e)).2.1)
  (by rw[d5];exact c9 w0 (by decide))
  (fun x aA=>by
   obtain⟨i,ag,_,e⟩:=hm aA
   obtain⟨k,rest,gB,am⟩:=xv ag e
   exact⟨k,rest,gB,iH.good _ _ _ gB (dy am).1 (dy am).2.1,(gv (xu iH oD ag e)).1⟩)
  (.inl ⟨fun q=>by
   obtain⟨i,ag,_,e⟩:=hm q
   exact(gv (xu iH oD ag e)).2.2.1 rfl,fun q=>by
   obtain⟨i,ag,_,e⟩:=hm q
   exact(gv (xu iH oD ag e)).2.2.2 rfl⟩)
 refine⟨bn,u,aB,l,(run (m+4) 76 [.obj 2,.int mask] σ (show ii (.int 5)=D [.int 0,.int 1,.int 2,.int 3,.int 4]from rfl)).1 aE fK,eu,le.trans eG,nQ,nR,fun x=>(jE x).trans ⟨fun aA=> ?_,fun⟨i,ag,ah,aN⟩=> ?_⟩,fun i hi ax=>⟨_,eG.row (pE ((pG i).mpr ⟨hi,ax⟩))⟩,((s1.dC (by decide)).trans bx.append).trans (oP.dC (by decide)),vO.trans i0.1,vP.trans i0.2,cp vN (by rw[d5];exact w0)⟩
 ·obtain⟨i,ag,ah,aN⟩:=hm aA
  exact⟨i,ag,ah,eG.row aN⟩
 ·have aH:=(pG i).mpr ⟨ag,ah⟩
  exact dk.mpr ⟨i,aH,mJ eu.inv.tab.nodup (eG.row (pE aH)) aN⟩
end
section
variable {xs:I O}{M:O}{T aB:ak}{S:I (V×V)}{A:bw}{R:be}{at_ g m n:H}{σ aC:St}
noncomputable def jR(cs:I O):I O:=((gl 21).map fun(i:H)=>(i:O)).filter fun c=>decide (c∈cs)
theorem Oz:ii (.int 21)=D (((gl 21).map fun(i:H)=>(i:O)).map .int):=rfl
noncomputable def Zo:V->V
 |.ab [c,_]=>c
 |_=> .none
noncomputable def aa3(cs:I O):V->au
 |.int c=>decide (c∈cs)
 |_=>aw
theorem Ft{n:H}{l eP:I V}(h:σ[n]?=D (.list l))(ao:V.fS l=ae)(e:l=eP):dF σ .eq (.obj n) (.lst eP)=D ae:=by
 subst e
 show nT σ (.obj n) (.lst l)=_
 unfold nT;dsimp only;rw[h];exact(a7 (by rw[ao];rfl)).trans (bs D (cW rfl))
theorem tb{b:au}:dF σ .ne (.bool b) (.bool b)=D aw:=by cases b <;>rfl
theorem acA{n:H}{l:I O}{c:O}(h:σ[n]?=D (.list (l.map .int))):dF σ .mem (.int c) (.obj n)=D (decide (c∈l)):=by
 show tK σ (.int c) (.obj n)=_
 unfold tK;dsimp only;rw[h];exact(a7 (by rw[tv];rfl)).trans (bs D (kQ.mpr Fa))
theorem I2:∀(l:I V),(l.map fun _=>aw).any id=aw
 |[]=>rfl
 |_::l=>I2 l
theorem World.vh(h:World xs M T S A R at_ g σ):σ[A.ba]?=D (.list R.ba)/\R.ba.length<=a4:=⟨h.inv.rel.ba,cp (cp (cn ..) h.room.iG) (by decide)⟩
noncomputable def nN(n:H)(ws:I O)(l:I V)(a b c d:aJ V):Loc:=[D (.obj 12),D (.int n),D (.lst (ws.map .int)),D (.lst l),a,b,c,d]
noncomputable def hq(R:be)(cs:I O):I V:=cs.map fun c=> .ab [.int c,.int R.at_]
theorem PT{cs:I O}{v:V}(h:v∈hq R cs):∃c,V.ab [.int c,.int R.at_]=v:=have ⟨c,_,e⟩:=dk.mp h;⟨c,e⟩
theorem PU{cs:I O}(aj:cs.length < 100):([]:I V).length+(hq R cs).length < a4:=c9 (gb ((g7 _).trans (d5 _))) (fN aj (by decide))
theorem ahS(h:World xs M T S A R at_ g σ){pre:I V}{cs:I O}(aZ:R.ba=pre++hq R cs):of σ (.obj A.ba) (D (pre.length:H)) aa=D (.lst (hq R cs)):=by
 unfold of;dsimp only;rw[h.vh.1]
 refine(a7 h.vh.2).trans (bs (fun l=>D (V.lst l)) ?_)
 rw[aZ]
 unfold cut ix mn;dsimp only
 rw[bz (Ci.mpr (kd _)),Cj,fw,ako (cn ..),List.drop_left,tT,akc]
theorem yl(h:World xs M T S A R at_ g σ){n:H}{ws cs:I O}(aj:cs.length < 100):
  gH σ.length (fun v aF=>gC PP (az PP m) aa (nN n ws (hq R cs) aa (D v) aa aa) aF) (fun v aF=>aG PP (az PP m) (.ay .ne (.sub (.aq 5) (.lit (.int 1))) (.attr (.aq 0) 23)) (nN n ws (hq R cs) aa (D v) aa aa) aF) (fun _=>ae) (hq R cs) (σ++ [.list []])=D (σ++ [.list ((hq R cs).map fun _=> .bool aw)]):=sc (r:=fun _=> .bool aw) (hq R cs) [] (fun v aH aF=>rfl)
  (fun v aH t=>by
   obtain⟨c,rfl⟩:=PT aH
   exact jB PP (az PP m) (.ay .ne (.sub (.aq 5) (.lit (.int 1))) (.attr (.aq 0) 23)) (nN n ws (hq R cs) aa (D (.ab [.int c,.int R.at_])) aa aa) (σ++t) hD (h.more t).dJ (k7 rfl)) (fun _=>rfl) (PU aj)
theorem PS{n:H}{ws cs:I O}(aj:cs.length < 100):
  gH σ.length (fun v aF=>gC PP (az PP m) aa (nN n ws (hq R cs) aa aa (D v) aa) aF) (fun v aF=>aG PP (az PP m) (.sub (.aq 6) (.lit (.int 0))) (nN n ws (hq R cs) aa aa (D v) aa) aF) (fun _=>ae) (hq R cs) (σ++ [.list []])=D (σ++ [.list (cs.map .int)]):=(sc (r:=Zo) (hq R cs) [] (fun v aH aF=>rfl)
  (fun v aH t=>by
   obtain⟨c,rfl⟩:=PT aH
   exact jB PP (az PP m) (.sub (.aq 6) (.lit (.int 0))) (nN n ws (hq R cs) aa aa (D (.ab [.int c,.int R.at_])) aa) (σ++t) cz) (fun _=>rfl) (PU aj)).trans (bs (fun l=>D (σ++ [Cell.list l])) (iK ..))
theorem ahR{n d:H}{ws cs:I O}{L:I V}(h:σ[d]?=D (.list (cs.map .int))):
  ∃cU,gH σ.length (fun v aF=>gC PP (az PP m) (D (.ay .mem (.aq 7) (.aq 4))) (nN n ws L (D (.obj d)) aa aa (D v)) aF) (fun v aF=>aG PP (az PP m) (.aq 7) (nN n ws L (D (.obj d)) aa aa (D v)) aF) (fun _=>ae) (((gl 21).map fun(i:H)=>(i:O)).map .int) (σ++ [.list []])=D (σ++ .list ((jR cs).map .int)::cU):=by
 have e:=sb (σ:=σ) (ck:=fun v aF=>gC PP (az PP m) (D (.ay .mem (.aq 7) (.aq 4))) (nN n ws L (D (.obj d)) aa aa (D v)) aF) (f:=fun v aF=>aG PP (az PP m) (.aq 7) (nN n ws L (D (.obj d)) aa aa (D v)) aF) (live:=fun _=>ae)
  (c:=aa3 cs) (r:=fun v=>v) (((gl 21).map fun(i:H)=>(i:O)).map .int) [] []
  (fun v aH t=>⟨[],by
   obtain⟨c,_,rfl⟩:=dk.mp aH
   rw[fi]
   exact runC PP (az PP m) (D (.ay .mem (.aq 7) (.aq 4))) (nN n ws L (D (.obj d)) aa aa (D (.int c))) (σ++t) (acA (e4 h))⟩)
  (fun v aH _ t=>⟨[],by rw[fi];rfl⟩) (fun _=>rfl) (by decide)
 rw[qf,aj7,Q4]at e
 exact e
theorem Ww{b fz:au}{ar:au->Prop}(e:b=fz)(h:po σ (.bool b) ar):po σ (.bool fz) ar:=e▸h
theorem World.P0(h:World xs M T S A R at_ g σ){pre:I V}{cs ws:I O}{b:au}(ax:R.df=b)(aZ:R.ba=pre++hq R cs)(aE:jR cs=if b then ws else [])(aj:cs.length < 100):∃cU,az PP (m+1) 80 [.obj 12,.int (pre.length:H),.lst (ws.map .int)] σ=D (.bool ae,σ++cU):=by
 have zl:((σ++ [Cell.list ((hq R cs).map fun _=> .bool aw)])++ [.list (cs.map .int)])[(σ++ [Cell.list ((hq R cs).map fun _=> .bool aw)]).length]?=D (.list (cs.map .int)):=fP
 obtain⟨cU,Lv⟩:=ahR (m:=m) (n:=pre.length) (ws:=ws) (L:=hq R cs) zl
 have e2:=(h.more ([Cell.list ((hq R cs).map fun _=> .bool aw)]++([.list (cs.map .int)]++ .list ((jR cs).map .int)::cU))).inv.rel.bO ax
 rw[h.inst.1,<-hR,<-hR]at e2
 refine⟨[Cell.list ((hq R cs).map fun _=> .bool aw)]++([.list (cs.map .int)]++ .list ((jR cs).map .int)::cU), ?_⟩
 rw[<-hR,<-hR]
 have go:=Ww (I2 (hq R cs)) ((run m 80 [.obj 12,.int (pre.length:H),.lst (ws.map .int)] σ h.dJ h.inv.rel.da (ahS h aZ) (show dd σ (.lst (hq R cs))=D (hq R cs)from rfl)).1 (yl h aj) (k4 fP) (pn _ _))
 cases b with
 |true=>exact((go rfl).1 (PS aj) Oz).1 Lv e2 (Ft qV (tv _) (bs (HE V.int) aE))
 |false=>exact((go rfl).1 (PS aj) Oz).1 Lv e2 (Ft qV (tv _) (bs (HE V.int) aE))
theorem World.told(h:World xs M T S A R at_ g σ){pre:I V}{cs ws:I O}(aZ:R.ba=pre++KK.told R cs)(aE:jR cs=ws)(aj:cs.length < 100):∃cU,az PP (m+1) 80 [.obj 12,.int (pre.length:H),.lst (ws.map .int)] σ=D (.bool ae,σ++cU):=by
 rcases ajF R.df with q|q
 ·exact h.P0 q (by rw[aZ];unfold KK.told;rw[q];rfl) (aE.trans (a7 rfl).symm) aj
 ·exact h.P0 (cs:=[]) q (by rw[aZ];unfold KK.told;rw[q];rfl) rfl (by decide)
theorem JT(cs:I O):jR (cs++cs)=jR cs:=bs (fun p=>ajR p _) (funext fun c=>kQ.mpr (l4.trans (or_self_iff)))
noncomputable def za(xs:I O)(M:O)(T0:ak)(S:I (V×V))(at_:H)(s:H)(row:V)(lets:au)(cs:I O):Prop:=∀(m:H) (a:V) (T:ak) (A:bw) (R:be) (g:H) (σ:St),T0.bJ T->T.rows[s]?=D a->World xs M T S A R at_ (g+200) σ->yZ xs M T S (R.say cs) at_ g (m+62) 68 [.obj 12,.int s,a,row] (.bool lets) σ
inductive Sk(xs:I O)(M:O)(T:ak)(S:I (V×V))(R:be)(at_ g m f:H)(args:I V)(v:V)(σ:St):Prop
 |mk (af:St) (aB:ak) (A':bw) (R':be) (e:az PP m f args σ=D (v,af)) (w:World xs M aB S A' R' at_ g af) (l:T.bJ aB) (bO:R'.df=R.df) (wt:R'.at_=R.at_)
inductive SW(xs:I O)(M:O)(T:ak)(S:I (V×V))(R:be)(at_ g m s:H)(a row:V)(lets:au)(ws ds:I O)(σ:St):Prop
 |mk (bn cU:St) (aB:ak) (A':bw) (R':be) (e:az PP (m+62) 68 [.obj 12,.int s,a,row] σ=D (.bool lets,bn)) (aX:az PP (m+62) 80 [.obj 12,.int (R.ba.length:H),.lst (ws.map .int)] bn=D (.bool ae,bn++cU)) (w:World xs M aB S A' R' at_ g (bn++cU)) (l:T.bJ aB) (k:el (R.say ds) R')
theorem World.round{du:ak}{ma:bw}{cv:be}(w:World xs M du S ma cv at_ (g+200) σ){s:H}{a row:V}{lets:au}{cs ds ws:I O}(c5:T.rows[s]?=D a)(aP:za xs M T S at_ s row lets cs)(le:T.bJ du)(k:el (R.say ds) cv)(aE:jR (ds++cs)=ws)(aj:(ds++cs).length < 100):
  SW xs M T S R at_ g m s a row lets ws (ds++cs) σ:=by
 obtain⟨bn,eK,ht,b2,aX,bE,ci,cZ⟩:=aP m a du ma cv g σ le (le.row c5) w
 have fY:=k.more cZ
 obtain⟨cU,bZ⟩:=bE.told (m:=m+61) (pre:=R.ba) (by rw[fY.ba,Ha (R:=R) fY.df fY.at_];rfl) aE aj
 exact⟨bn,cU,eK,ht,b2,aX,bZ,bE.more cU,le.trans ci,fY⟩
theorem World.Lf(h:World xs M T S A R at_ (g+500) σ){s:H}{a row:V}{lets:au}{cs ws:I O}(c5:T.rows[s]?=D a)(aP:za xs M T S at_ s row lets (if lets then cs else []))(aE:jR cs=ws)(aj:cs.length < 40):
  Sk xs M T S R at_ g (m+63) 81 [.obj 12,.int s,row,.bool lets,.lst (ws.map .int)] (.bool ae) σ:=by
 have eT:jR (if lets then cs else [])=(if lets then ws else []):=by cases lets;rfl;exact aE
 have sF:(if lets=ae then cs else []).length < 40:=by cases lets;exact c9 (kL _) aj;exact aj
 generalize (if lets=ae then cs else [])=ds at *
 have ci:(ds++ds).length < 100:=by rw[fw];exact gm (akf sF sF) (by decide)
 obtain⟨bn,dq,eK,ht,b2,aX,f2,bE,Fm,cZ⟩:=World.round (g:=g+300) (m:=m) (ds:=[]) h c5 aP (ak.bJ.refl T) (el.refl R).nil eT (fN sF (by decide))
 obtain⟨ct,e2,iU,i5,gA,bZ,kp,cG,fJ,fY⟩:=World.round (g:=g+100) (m:=m) (ds:=ds) bE c5 aP Fm cZ ((JT ds).trans eT) ci
 refine⟨_,iU,i5,gA, ?_,cG.less (cn ..),fJ,fY.df,fY.at_⟩
 have go:=fun lets=>(run (m+62) 81 [.obj 12,.int s,row,.bool lets,.lst (ws.map .int)] σ h.dJ h.inv.rel.da (mH h.vh.1 h.vh.2) (show ii (.int 2)=D [.int 0,.int 1]from rfl)).2 rfl h.dJ h.inv.host h.inv.tab.bT (h.row c5)
 cases lets with
 |true=>exact go ae aX tb f2 rfl bE.dJ bE.inv.host bE.inv.tab.bT (bE.row (Fm.row c5)) bZ tb kp rfl
 |false=>exact go aw aX tb f2 rfl bE.dJ bE.inv.host bE.inv.tab.bT (bE.row (Fm.row c5)) bZ tb kp rfl
end
theorem aeJ{p q:fy}(h:pv p=pv q):p=q:=by
 obtain⟨n,t,f,k⟩:=p
 obtain⟨fe,eF,nf,k'⟩:=q
 have ⟨a,l⟩:=ej (V.ab.inj h)
 have ⟨b,l⟩:=ej l
 have ⟨c,l⟩:=ej l
 rw[show n=fe from V.str.inj a,show t=eF from fM (V.int.inj b),show f=nf from fM (V.int.inj c),show k=k' from V.int.inj (ej l).1]
theorem cX.ON{o dp:cX}(h:o.row=dp.row):o=dp:=by
 obtain⟨p,a,b,c,d,f⟩:=o
 obtain⟨fF,mi,fz,fA,jS,nf⟩:=dp
 have ⟨aT,l⟩:=ej (ej (V.ab.inj h)).2
 have ⟨aX,l⟩:=ej l
 have ⟨bZ,l⟩:=ej l
 have ⟨dP,l⟩:=ej l
 have ⟨eD,l⟩:=ej l
 rw[show p=fF from(Rd (fun _ _=>aeJ)).mp (V.ab.inj aT),show a=mi from aX,show b=fz from bZ,show c=fA from dP,show d=jS from eD,show f=nf from V.int.inj (ej l).1]
theorem NJ{r:V}{rest Gw:I V}(h:r= .ab (.int 8::rest))(aD:r= .ab (.int 9::Gw)):False:=absurd (V.int.inj (ej (V.ab.inj (h.symm.trans aD))).1) (by decide)
theorem gq.uniq{T:ak}{t i Au:H}{o dp:cX}(a:gq T t i o)(b:gq T t Au dp):o=dp:=by
 cases a with
 |obj e=>cases b with
  |obj cH=>exact cX.ON (bD (e.symm.trans cH))
  |ref cH _ _ _=>exact(NJ rfl (bD (e.symm.trans cH))).elim
 |ref e m7 cL dR=>cases b with
  |obj cH=>exact(NJ rfl (bD (cH.symm.trans e))).elim
  |ref cH dv ci dq=>
   have q:=V.int.inj (ej (ej (V.ab.inj (bD (e.symm.trans cH)))).2).1
   rw[HL (fM q),dv]at m7
   rw[fM (qj (bD m7)).2,dR]at dq
   exact cX.ON (bD dq)
theorem Walk.le{T aB:ak}(h:T.bJ aB){w seen out res:I H}{n:H}(a:Walk T w seen out res n):Walk aB w seen out res n:=by
 induction a with
 |done=>exact .done
 |leaf ag ah aN b1 _ bh=>exact .leaf ag (h.row ah) aN b1 bh
 |bound ag ah aN b1 ef c7 _ bh=>exact .bound ag (h.row ah) (h.bound aN) b1 ef c7 bh
 |union ag ah aN b1 _ bh=>exact .union ag (h.row ah) aN b1 bh
theorem me.le{T aB:ak}(h:T.bJ aB){p:H}{b:au}:me T p b->me aB p b
 |.e8 e a b c=> .e8 (h.row e) a b c
 |.obj s k=> .obj (s.le h) k
theorem jM.le{T aB:ak}(h:T.bJ aB){x k:H}{seen:I H}{b:au}:jM T x seen k b->jM aB x seen k b
 |⟨res,n,k3,w,aZ,aj,aR,aI⟩=>⟨res,n,k3,w.le h,aZ,aj,fun p ao=>(aR p ao).le h,aI⟩
theorem r5.le{T aB:ak}(h:T.bJ aB){x:H}{b:au}(a:r5 T x b):r5 aB x b:=jM.le h a
noncomputable def j5:aK:=⟨#[113]⟩
inductive gZ(T:ak)(t:H)(b:au):Prop
 |mk (i:H) (o:cX) (big:16<=t) (pt:iS T t) (s:gq T t i o) (k:o.bk) (l:o.kz=b) (q:∃p∈o.props,p.name=j5)
theorem gZ.big{T:ak}{t:H}{b:au}:gZ T t b->16<=t
 |⟨_,_,h,_,_,_,_,_⟩=>h
theorem gZ.pt{T:ak}{t:H}{b:au}:gZ T t b->iS T t
 |⟨_,_,_,h,_,_,_,_⟩=>h
theorem gZ.le{T aB:ak}(h:T.bJ aB){t:H}{b:au}:gZ T t b->gZ aB t b
 |⟨i,o,a,p,s,k,l,q⟩=>⟨i,o,a,p.le h,s.le h,k,l,q⟩
theorem gZ.sT{T:ak}{t:H}{b:au}:gZ T t b->me T t b
 |⟨i,o,a,p,s,k,l,q⟩=>l▸ .obj s k
theorem gZ.uniq{T:ak}{t:H}{b fz:au}:gZ T t b->gZ T t fz->b=fz
 |⟨_,_,_,_,s,_,l,_⟩,⟨_,_,_,_,bc,_,eP,_⟩=>l.symm.trans ((bs cX.kz (s.uniq bc)).trans eP)
theorem gZ.aW{T:ak}{t:H}{b:au}:gZ T t b->∃k rest,T.rows[t]?=D (.ab (.int k::rest))/\(k=8\/k=9)
 |⟨_,_,_,_,s,_,_,_⟩=>s.aW
theorem ab6{T:ak}{t:H}{k:O}{rest:I V}{seen:I H}(h:t∉seen)(e:T.rows[t]?=D (.ab (.int k::rest)))(c7:k≠6)(mv:k≠10):Walk T [t] seen [] [t] 1:= .leaf (w:=[]) h e c7 mv .done
theorem Bj{T:ak}{t k':H}{k:O}{rest:I V}{seen:I H}{b:au}(aA:t∉seen)(e:T.rows[t]?=D (.ab (.int k::rest)))(c7:k≠6)(mv:k≠10)(aj:me T t b):jM T t seen (k'+2) b:=⟨[t],1,fun _=>b,ab6 aA e c7 mv,akz (akB _),by show 1 < 50;decide,fun p ao=>dt.mp ao▸aj,Ht b⟩
theorem gZ.goal{T:ak}{t k:H}{seen:I H}{b:au}(a:gZ T t b)(h:t∉seen):jM T t seen (k+2) b:=
 have ⟨k,rest,e,am⟩:=a.aW
 Bj h e (oE am (by decide)) (oE am (by decide)) a.sT
theorem gZ.BN{T:ak}{t:H}{b:au}(a:gZ T t b):r5 T t b:=a.goal (k:=7) nX
theorem jM.param{T:ak}{x t p k:H}{seen:I H}{b:au}{bd:O}(h:x∉seen)(e:T.rows[x]?=D (.ab [.int 10,.int p]))(ax:T.bounds[p]?=D bd)(Ez:kY bd=t)(cc:t≠x)(ao:p < a4):jM T t (seen++ [x]) k b->jM T x seen (k+1) b
 |⟨res,n,k3,w,aZ,aj,aR,aI⟩=>⟨res,n+1,k3,.bound (w:=[]) h e ax Ez cc ao w,akz aZ,aj,aR,aI⟩
theorem Y8{f:ev}{x:Rs}{J mU:Loc}{σ aC:St}(h:(match f with|.next=>x|f=>D (f,J,σ))=D (ev.next,mU,aC)):f= .next/\x=D (.next,mU,aC):=by
 cases f with
 |next=>exact⟨rfl,h⟩
 |brk=>exact ev.noConfusion (qj (bD h)).1
 |cont=>exact ev.noConfusion (qj (bD h)).1
 |ret v=>exact ev.noConfusion (qj (bD h)).1
theorem lX{P:c4}{C:Cl}{mU:Loc}{aC:St}{r:Rs}{b:I KK.S}:∀ {a:I KK.S} {J:Loc} {σ:St} (h:cQ P C a J σ=D (.next,mU,aC)) (k:cQ P C b mU aC=r),cQ P C (a++b) J σ=r
 |[],_,_,h,k=>(bs (fun x:Rs=>match x with|some (_,J,σ)=>cQ P C b J σ|none=>aa) h).trans k
 |s::a,J,σ,h,k=>i7 h fun x ag ah=>have ⟨e,ah⟩:=Y8 ah;de (ag.trans (bs (fun f=>D (f,x.2.1,x.2.2)) e)) (lX ah k)
noncomputable def j7:V:= .ab [.int 13,.ab [],.ab [],.int 7,.ab [],.int 0]
theorem BD:iT j7:=⟨rfl,rfl,13,_,rfl,fun _ _=>⟨13,_,rfl,by decide,fun q=>absurd q (by decide),by show 5 < 50;decide⟩,fun q=>absurd q (by decide),by decide,by decide⟩
noncomputable def pX:fy:=⟨j5,7,1,0⟩
noncomputable def vf(n:aK):fy:=⟨n,7,0,0⟩
noncomputable def acS:I V:=[.str ⟨#[]⟩,.str ⟨#[108,101,110,103,116,104]⟩,.str ⟨#[48]⟩,.str ⟨#[112]⟩,.str ⟨#[48,49]⟩,.str ⟨#[]⟩,.str ⟨#[]⟩,.str ⟨#[112,117,115,104]⟩,.str ⟨#[]⟩]
noncomputable def nO(more:O)(cV:H)(props:I fy):cX:=
 {props:=props,calls:=if more=5 then .ab [.int cV]else .ab [],ctors:=if more=8 then .ab [.int cV]else .ab [],gO:=if more=6 then .ab [.int 7,.int 0]else .ab [],mz:= .ab [],flag:=0}
theorem vq{p:Prop}[oV p]{a b:V}(aI:V.gS 4 a=ae)(ax:V.gS 4 b=ae):V.gS 4 (if p then a else b)=ae:=by
 split
 ·exact aI
 ·exact ax
theorem ah4(more:O)(cV:H)(props:I fy):V.fS [(nO more cV props).calls,(nO more cV props).ctors,(nO more cV props).gO]=ae:=by
 show(V.gS 4 _ && (V.gS 4 _ && (V.gS 4 _ && ae)))=ae
 rw[nO,vq rfl rfl,vq rfl rfl,vq rfl rfl];rfl
theorem BC{o:cX}(h:V.fS [o.calls,o.ctors,o.gO,o.mz]=ae):iT o.row:=by
 refine⟨rfl, ?_,8,_,rfl,fun _ q=>absurd rfl q,fun q=>absurd q (by decide),by decide,by decide⟩
 have p:V.gS 4 (.ab (o.props.map pv))=ae:=ke.mpr fun x aA=>by
  obtain⟨p,_,rfl⟩:=dk.mp aA
  rfl
 have aD:(V.gS 4 o.calls && (V.gS 4 o.ctors && (V.gS 4 o.gO && (V.gS 4 o.mz && ae))))=ae:=h
 show(V.gS 4 (.ab (o.props.map pv)) && _)=ae
 rw[p];exact aD
theorem adD{T:ak}(b8:cP T){t:H}{o:cX}(h:T.rows[t]?=D o.row)(bH:o.flag=0)(ao:o.props≠ []):16<=t/\iS T t:=by
 have b:16<=t:=by
  rcases qi t 16 with l|l
  ·obtain⟨k,r,e,_,_,aeN,_⟩:=b8.aW l
   have cH:=V.ab.inj (bD (h.symm.trans e))
   obtain rfl:=aeN.mp (V.int.inj (ej cH).1).symm
   have aX:=V.ab.inj (bD (h.symm.trans (b8.first 11 (by decide))))
   exact absurd (aj5.mp (V.ab.inj (ej (ej aX).2).1)) ao
  ·exact l
 exact⟨b,8,_,h,⟨8,_,rfl,by decide,fun _=>⟨o.flag,rfl,by rw[bH];decide⟩,by show 6 < 50;decide⟩,.inr (.inr (.inr (.inr b)))⟩
noncomputable def lj:H->aK
 |1=>vB
 |2=>kG
 |3=>ij
 |4=>x4
 |7=>vC
 |_=>⟨#[]⟩
noncomputable def kI(x:H):I fy:=if lj x=⟨#[]⟩then [pX]else [vf (lj x),pX]
noncomputable def yn(x:H):au:=decide ((x:O) < 3)||decide ((x:O)=7)
theorem xG{p:H->Prop}(h0:p 0)(ag:p 1)(ah:p 2)(aN:p 3)(b1:p 4)(ef:p 5)(c7:p 6)(hy:p 7)(iX:p 8):∀i,i < 9->p i
 |0,_=>h0
 |1,_=>ag
 |2,_=>ah
 |3,_=>aN
 |4,_=>b1
 |5,_=>ef
 |6,_=>c7
 |7,_=>hy
 |8,_=>iX
 |i+9,h=>absurd h (mT.mpr (yH 9 i))
theorem FD{p:H->Prop}(h0:p 0)(ag:p 1)(ah:p 2)(aN:p 3)(b1:p 4)(ef:p 5)(c7:p 6)(hy:p 7)(i:H)(hi:i < 8):p i:=xG (p:=fun i=>i < 8->p i) (fun _=>h0) (fun _=>ag) (fun _=>ah) (fun _=>aN) (fun _=>b1) (fun _=>ef) (fun _=>c7) (fun _=>hy) (fun h=>absurd h (by decide)) i (nY hi) hi
theorem ahX:∀x,x < 9->∀p∈kI x,p.fl &&& 1≠0\/p.name=vB\/p.name=vC\/p.name=kG\/p.name=x4\/p.name=ij:=xG (by decide) (by decide) (by decide) (by decide) (by decide) (by decide) (by decide) (by decide) (by decide)
theorem ah0(x:H):kI x≠ []/\(kI x).length<=4/\∃p∈kI x,p.name=j5:=by
 unfold kI;split
 ·exact⟨nofun,by show 1<=4;decide,pX,.head _,rfl⟩
 ·exact⟨nofun,by show 2<=4;decide,pX,.tail _ (.head _),rfl⟩
theorem ahY(cV:H):∀x:H,x < 9->(nO x cV (kI x)).kz=yn x:=
 have no:∀ {x:H},(nO x cV (kI x)).calls≠ .ab []\/(nO x cV (kI x)).ctors≠ .ab []\/(nO x cV (kI x)).gO≠ .ab []->(nO x cV (kI x)).kz=aw:=fun{x} h=>by
  unfold cX.kz cX.plain
  rw[ek fun q=>by
   have ⟨a,q⟩:=ej q
   have ⟨b,q⟩:=ej q
   exact h.elim (fun z=>z a) fun z=>z.elim (fun z=>z b) fun z=>z (ej q).1]
  rfl
 xG rfl rfl rfl rfl rfl (no (.inl nofun)) (no (.inr (.inr nofun))) rfl (no (.inr (.inl nofun)))
theorem ah3{σ:St}:∀x:H,x < 9->ee σ (.ab acS) (.int x)=D (.str (lj x)):=xG rfl rfl rfl rfl rfl rfl rfl rfl rfl
theorem ah2:∀x,x < 9->lj x≠⟨#[]⟩->j5≠lj x/\rD (lj x) j5=ae:=xG (by decide) (by decide) (by decide) (by decide) (by decide) (by decide) (by decide) (by decide) (by decide)
inductive S8(xs:I O)(M:O)(T:ak)(S:I (V×V))(A:bw)(R:be)(at_ g m:H)(σ:St):Prop
 |mk (af:St) (aB:ak) (t:H) (b:au) (e:az PP (m+6) 78 [.obj 1,.obj 2] σ=D (.ab [.int (t:H),.bool b],af)) (w:World xs M aB S A R (at_+2) g af) (l:T.bJ aB) (amA:gZ aB t b) (s:bx fc σ af)
inductive S6(xs:I O)(M:O)(T:ak)(S:I (V×V))(A:bw)(R:be)(at_ g m:H)(σ:St)(n:H):Prop
 |mk (af:St) (x:H) (h:x < n) (e:az PP (m+1) 75 [.obj 1,.int n] σ=D (.int (x:H),af)) (w:World xs M T S A R (at_+1) g af) (s:bx fc σ af)
section
variable {xs:I O}{M:O}{T aB:ak}{S:I (V×V)}{A:bw}{R:be}{at_ g m n:H}{σ aC:St}
theorem World.hp(h:World xs M T S A R at_ (g+1) σ){n:H}(aZ:0 < n):S6 xs M T S A R at_ g m σ n:=
 match World.take (m:=m) h (n:=n) (fv.mpr aZ)with
 |⟨af,.ofNat x,h0,ag,e,w,s⟩=>⟨af,x,fv.mp ag,e,w,s⟩
theorem ahZ{C:Cl}{x:H}(aA:x < 9)(e:C 75 [.obj 1,.int 9] σ=D (.int (x:H),aC)):cQ PP C (r8.take 4) [D (.obj 1),D (.obj 2),aa,aa,aa,aa,aa] σ=D (.next,[D (.obj 1),D (.obj 2),D (.int x),D (.str (lj x)),D (.lst ((kI x).map pv)),aa,aa],aC):=by
 have go:=g4 PP C (r8.take 4) [D (.obj 1),D (.obj 2),aa,aa,aa,aa,aa] σ e (ah3 x aA)
 unfold kI
 by_cases q:lj x=⟨#[]⟩
 ·rw[a7 q]
  exact go (Pg q)
 ·obtain⟨ag,ah⟩:=ah2 x aA q
  rw[bz q]
  have a1:hM .add (.lst [pv pX]) (.lst [pv (vf (lj x))])=D (.lst [pv pX,pv (vf (lj x))]):=(a7 (by decide):(if 1+1<=a4 then D (V.lst ([pv pX]++ [pv (vf (lj x))]))else aa)=_)
  have c1:yc (.lst [pv pX,pv (vf (lj x))])=D (.lst [pv (vf (lj x)),pv pX]):=(bz ag).trans (a7 ah)
  exact go (BI q) a1 c1
theorem Fe{C:Cl}{J:Loc}{x:H}{c:O}{e:E}{z:V}(aj:c2 J 2=D (.int x))(he:aG PP C e J σ=D (z,σ)):aG PP C (.ite (.ay .eq (.aq 2) (.lit (.int c))) e (.ab [])) J σ=D (if(x:O)=c then z else .ab [],σ):=by
 by_cases q:(x:O)=c
 ·rw[a7 q]
  exact uX (t:=ae) (gc (bF aj) cE (eqT q)) rfl he
 ·rw[bz q]
  exact uX (t:=aw) (gc (bF aj) cE (bf q)) rfl rfl
theorem ah1{C:Cl}{x cV:H}{props:I fy}{nm:V}(aj:props.length<=4):aG PP C (.ab [.lit (.int 8),.tuple (.aq 4),.ite (.ay .eq (.aq 2) (.lit (.int 5))) (.aq 5) (.ab []),.ite (.ay .eq (.aq 2) (.lit (.int 8))) (.aq 5) (.ab []),.ite (.ay .eq (.aq 2) (.lit (.int 6))) (.ab [.lit (.int 7),.lit (.int 0)]) (.ab []),.ab [],.lit (.int 0)])
  [D (.obj 1),D (.obj 2),D (.int x),D nm,D (.lst (props.map pv)),D (.ab [.int (cV:H)]),aa] σ=D ((nO x cV props).row,σ):=kJ (eO cE (eO (jB PP C (.tuple (.aq 4)) [D (.obj 1),D (.obj 2),D (.int x),D nm,D (.lst (props.map pv)),D (.ab [.int (cV:H)]),aa] σ rfl (cp (cp (gb (d5 _)) aj) (by decide)))
  (eO (Fe rfl rfl) (eO (Fe rfl rfl) (eO (Fe rfl rfl) (eO rfl (jT cE)))))))
noncomputable def vK(x:H)(ps:I fy)(cV t:H):Loc:=[D (.obj 1),D (.obj 2),D (.int x),D (.str (lj x)),D (.lst (ps.map pv)),D (.ab [.int cV]),D (.int t)]
noncomputable abbrev BZ:I KK.S:=[.iff (.ay .eq (.call 75 [.aq 0,.lit (.int 2)]) (.lit (.int 1))) [.set 6 (.call 77 [.aq 1,.aq 6])] []]
theorem World.PW(h:World xs M T S A R at_ (g+5) σ):S8 xs M T S A R at_ g m σ:=by
 refine cps fun G bV=> ?_
 obtain⟨aC,x,aA,aT,a9,s1⟩:=World.hp (g:=g+4) (m:=m+4) h (n:=9) (by decide)
 have pre:=ahZ aA aT
 have lt:=ahY (T.pos j7) x aA
 have AL:=ahX x aA
 obtain⟨ne,aj,q⟩:=ah0 x
 obtain⟨bZ,cG,kE⟩:=World.ru (g:=g+3) (m:=m+4) a9 BD.b (BD.fit T)
 have pu:=ah4 x (T.pos j7) (kI x)
 have ok:iT (nO x (T.pos j7) (kI x)).row:=BC pu
 generalize kI x=ps at *
 obtain⟨iq,jN,p5,dP,eH,hN,gw,eV,s4⟩:=World.put (g:=g+2) (m:=m+4) cG ok
 obtain⟨kl,aeC⟩:=adD eH.inv.a8 gw rfl ne
 obtain⟨hT,y,Cb,eD,eY,s5⟩:=World.hp (g:=g+1) (m:=m+4) eH (n:=2) (by decide)
 have mid:∀ {r},cQ PP (az PP (m+5)) (r8.drop 6) (vK x ps (T.pos j7) p5) iq=r->cQ PP (az PP (m+5)) r8 [D (.obj 1),D (.obj 2),aa,aa,aa,aa,aa] σ=r:=fun k=>lX pre (de (et (kJ (jT (sY (bF rfl) a9.inv.tab.bT sX (jT (v:=j7) rfl) bZ)))) (de (et (sY (bF rfl) cG.inv.tab.bT sX (jT (ah1 aj)) dP)) k))
 have OW:=((s1.trans (kE.dC (by decide))).trans s4).trans s5
 have last:∀ {t:H} {aF:St},cQ PP (az PP (m+5)) (r8.drop 7) (vK x ps (T.pos j7) t) aF=D (.ret (.ab [.int t,.bool (yn x)]),(vK x ps (T.pos j7) t),aF):=fun{t aF}=>by
  have go:=g4 PP (az PP (m+5)) (r8.drop 7) (vK x ps (T.pos j7) t) aF
  unfold yn
  by_cases z:(x:O) < 3
  ·rw[cW z];exact go (sV z)
  ·rw[ek z];exact go (lL z) rfl
 by_cases z:y=1
 ·obtain⟨iN,m1,nM,dy,hL,gk,j1,ih,ja,Bw,s6⟩:=World.declared (g:=g) (m:=m+2) eY (b:=p5)
  have n8:16<=nM:=gk.inv.a8.big ih (by decide)
  exact bV ⟨iN,m1,nM,yn x,k0 rfl rfl (mid (lX (a:=BZ) (g4 PP (az PP (m+5)) BZ (vK x ps (T.pos j7) p5) iq eD (eqT (bs l3 z)) hL) last)) rfl,gk,((T.mL _).trans hN).trans j1,
   ⟨p5,_,n8,⟨9,_,ih,gk.inv.a8.good _ _ _ ih (by decide) (by decide),.inr (.inr (.inr (.inr n8)))⟩,.ref ih ja (c9 (cp (cn ..) eY.room.kF) (by decide)) (j1.row gw),⟨pu,aj,AL⟩,lt,q⟩,OW.trans s6⟩
 ·exact bV ⟨hT,jN,p5,yn x,k0 rfl rfl (mid (lX (a:=BZ) (g4 PP (az PP (m+5)) BZ (vK x ps (T.pos j7) p5) iq eD (bf fun w=>z (fM w))) last)) rfl,eY.less (eJ g),(T.mL _).trans hN,⟨p5,_,kl,aeC,.obj gw,⟨pu,aj,AL⟩,lt,q⟩,OW⟩
end
section
variable {xs:I O}{M:O}{T aB:ak}{S:I (V×V)}{A:bw}{R:be}{at_ g m n:H}{σ aC:St}
structure qv(T:ak)(x:H)(b:au):Prop where
 big:16<=x
 BN:r5 T x b
 aW:(∃p:H,T.rows[x]?=D (.ab [.int 10,.int p]))\/gZ T x b
theorem qv.le{T aB:ak}(h:T.bJ aB){x:H}{b:au}(a:qv T x b):qv aB x b:=⟨a.big,a.BN.le h,a.aW.elim (fun⟨p,e⟩=> .inl ⟨p,h.row e⟩) (fun t=> .inr (t.le h))⟩
theorem uh{t:H}(h:t≠0):kY (t:O)=t:=bz fun q=>q.elim xL (dB h)
theorem World.fresh(h:World xs M T S A R at_ g σ){x:H}(l:T.bJ aB)(r:aB.rows[x]?=D (.ab [.int 10,.int (T.bounds.length:H)])):T.rows.length<=x:=by
 rcases qi x T.rows.length with q|q
 ·obtain⟨ex,he⟩:=l.rows
  rw[he,jJ q]at r
  exact absurd (h.inv.a8.Bp _ _ r) (v7 _)
 ·exact q
inductive SN(xs:I O)(M:O)(T:ak)(S:I (V×V))(A:bw)(R:be)(at_ g m:H)(name:V)(bd:O)(b:au)(σ:St):Prop
 |mk (af:St) (aB:ak) (x:H) (e:az PP (m+2) 6 [.obj 2,name,.int bd,.int (-1)] σ=D (.int (x:H),af)) (w:World xs M aB S A R at_ g af) (l:T.bJ aB) (o:qv aB x b) (s:bx fc σ af)
theorem World.tr(h:World xs M T S A R at_ (g+1) σ){name:V}{t:H}{bd:O}{b:au}(Ez:kY bd=t)(aP:t < T.rows.length)(w:∀x,T.rows.length<=x->jM T t [x] 8 b):SN xs M T S A R at_ g m name bd b σ:=by
 obtain⟨af,aB,x,e,w',l,r,iw,eq,s⟩:=World.param (m:=m) h (name:=name) (dflt:= .int (-1)) (b:=bd)
 have aA:=h.fresh l r
 exact⟨af,aB,x,e,w',l,⟨w'.inv.a8.big r (by decide),jM.param nX r iw Ez (hI (gm aP aA)) (c9 (cp (cn ..) h.room.dq) (by decide)) ((w x aA).le l),.inl ⟨_,r⟩⟩,s⟩
theorem xO{t x l:H}(h:t < l)(aA:l<=x):t∉ [x]:=fun q=>hI (gm h aA) (dt.mp q)
end
theorem gZ.lt{T:ak}{t:H}{b:au}(a:gZ T t b):t < T.rows.length:=have ⟨_,_,e,_⟩:=a.aW;gh e
theorem yd{l eP:I H}(h:l.Pairwise (· < ·))(aD:eP.Pairwise (· < ·))(hm:∀x,x∈l↔x∈eP):l=eP:=F2 (Pn (F3.mpr h) (F3.mpr aD) fun x=>⟨fun q=>have ⟨n,a,e⟩:=dk.mp q;dk.mpr ⟨n,(hm n).mp a,e⟩,fun q=>have ⟨n,a,e⟩:=dk.mp q;dk.mpr ⟨n,(hm n).mpr a,e⟩⟩)
theorem aei{l:I H}{a b:H}(aY:l.Pairwise (· < ·))(hm:∀x,x∈l↔x∈ [a,b]):l=[a]/\a=b\/l=[a,b]\/l=[b,a]:=by
 have two:∀ {x y:H},x < y->[x,y].Pairwise (· < ·):=fun h=>l5.mpr ⟨fun z hz=>dt.mp hz▸h,Rg ..⟩
 rcases HK a b with h|h|h
 ·exact .inr (.inl (yd aY (two h) hm))
 ·subst h
  exact .inl ⟨yd aY (Rg ..) fun x=>(hm x).trans ⟨fun q=>(dj.mp q).elim (fun r=>r▸ .head _) id,fun q=> .tail _ q⟩,rfl⟩
 ·exact .inr (.inr (yd aY (two h) fun x=>(hm x).trans (amP (amQ ..))))
theorem vi{T:ak}(h:cP T):T.rows[5]?=D (.ab [.int 1,.str ⟨#[110,117,108,108]⟩]):=h.first 5 (by decide)
theorem KU{T:ak}(h:cP T):iS T 5:=⟨1,_,vi h,h.good _ _ _ (vi h) (by decide) (by decide),.inr (.inl rfl)⟩
inductive hu(T:ak)(a:H)(b:au):Prop
 |mk (k:O) (rest:I V) (e:T.rows[a]?=D (.ab (.int k::rest))) (c7:k≠6) (mv:k≠10) (pt:iS T a) (sT:me T a b) (low:a∉ [0,2,6,7])
theorem hu.le{T aB:ak}(h:T.bJ aB){a:H}{b:au}:hu T a b->hu aB a b
 |⟨k,r,e,c7,mv,pt,sT,low⟩=>⟨k,r,h.row e,c7,mv,pt.le h,sT.le h,low⟩
theorem hu.pt{T:ak}{a:H}{b:au}:hu T a b->iS T a
 |⟨_,_,_,_,_,pt,_,_⟩=>pt
theorem hu.low{T:ak}{a:H}{b:au}:hu T a b->a∉ [0,2,6,7]
 |⟨_,_,_,_,_,_,_,low⟩=>low
theorem hu.lt{T:ak}{a:H}{b:au}:hu T a b->a < T.rows.length
 |⟨_,_,e,_,_,_,_,_⟩=>gh e
theorem hu.parts{T:ak}(b8:cP T){a:H}{b:au}:hu T a b->gY T a (cA [a])
 |⟨_,_,e,c7,_,_,_,low⟩=>vm b8 e c7 fun q=>low (q▸ .tail _ (.head _))
theorem gZ.leaf{T:ak}{t:H}{b:au}(a:gZ T t b):hu T t b:=
 have ⟨k,rest,e,am⟩:=a.aW
 ⟨k,rest,e,oE am (by decide),oE am (by decide),a.pt,a.sT,fun q=>mT.mpr a.big ((by decide:∀x∈ [0,2,6,7],x < 16) t q)⟩
theorem D9{T:ak}(h:cP T):hu T 5 ae:=⟨1,_,vi h,by decide,by decide,KU h,.e8 (vi h) (by decide) (by decide) (by decide),by decide⟩
theorem hu.goal{T:ak}{a k:H}{seen:I H}{b:au}(h:a∉seen):hu T a b->jM T a seen (k+2) b
 |⟨_,_,e,c7,mv,_,sT,_⟩=>Bj h e c7 mv sT
theorem Bb{a x u:H}(ag:a≠x)(ah:a≠u):a∉ [x,u]:=yF ag (yF ah nX)
theorem hu.two{T:ak}{u x a b:H}{oC lb:au}(cd:T.rows[u]?=D (.ab [.int 6,.ab ((cA [a,b]).map .int)]))(aA:T.rows.length<=x)(cc:a≠b):hu T a oC->hu T b lb->jM T u [x] 8 (lb||oC)
 |⟨ka,cM,c5,qB,wr,_,wt,_⟩,⟨Mr,f5,fC,n8,pj,_,iW,_⟩=>
  have ne:∀ {y:H},y < T.rows.length->y≠x:=fun h=>hI (gm h aA)
  have NO:∀ {y:H} {k:O} {r:I V},T.rows[y]?=D (.ab (.int k::r))->k≠6->y≠u:=fun e h q=>h (V.int.inj (ej (V.ab.inj (bD ((q▸e).symm.trans cd)))).1)
  ⟨[b,a],3,fun p=>if p=a then oC else lb,
   .union (w:=[]) (fun q=>ne (gh cd) (dt.mp q)) cd (fun q=>nomatch (ej q).2) (by show 2 < 100;decide)
    (.leaf (w:=[a]) (t:=b) (Bb (ne (gh fC)) (NO fC n8)) fC n8 pj (.leaf (w:=[]) (t:=a) (yF (ne (gh c5)) (Bb (NO c5 qB) cc)) c5 qB wr .done)),
   by decide,by show 2 < 50;decide,fun p ao=>by
    by_cases q:p=a
    ·subst q;exact(a7 rfl:(if p=p then oC else lb)=oC).symm▸wt
    ·have:p=b:=by
      rcases dj.mp ao with r|r
      ·exact r
      ·exact absurd (dt.mp r) q
     subst this
     exact(bz q:(if p=a then oC else lb)=lb).symm▸iW,
   (congr (bs or (bz cc.symm)) (bs (or · aw) (a7 rfl))).trans (by rw[Ht])⟩
theorem afj(t:H):iT (.ab [.int 11,.int t,.int 0]):=⟨rfl,rfl,11,_,rfl,fun _ _=>⟨11,_,rfl,by decide,fun q=>absurd q (by decide),by show 2 < 50;decide⟩,fun q=>absurd q (by decide),by decide,by decide⟩
inductive Tb(xs:I O)(M:O)(T:ak)(S:I (V×V))(A:bw)(R:be)(at_ g m a b:H)(c:au)(σ:St):Prop
 |mk (af:St) (u:H) (aB:ak) (e:az PP (m+4) 14 [.obj 2,.lst [.int a,.int b]] σ=D (.int (u:H),af)) (w:World xs M aB S A R at_ g af) (l:T.bJ aB) (lt:u < aB.rows.length) (lZ:u≠0) (i1:∀x,aB.rows.length<=x->jM aB u [x] 8 c) (s:bx [3,4] σ af)
  (pr:a≠b->∃l,aB.rows[u]?=D (.ab [.int 6,.ab ((cA l).map .int)])/\(l=[a,b]\/l=[b,a]))
inductive SM(xs:I O)(M:O)(T:ak)(S:I (V×V))(A:bw)(R:be)(g m:H)(σ:St):Prop
 |mk (af:St) (aB:ak) (x:H) (b:au) (at':H) (e:az PP (m+7) 79 [.obj 1,.obj 2] σ=D (.ab [.int (x:H),.bool b],af)) (w:World xs M aB S A R at' g af) (l:T.bJ aB) (o:qv aB x b) (s:bx fc σ af)
section
variable {xs:I O}{M:O}{T aB:ak}{S:I (V×V)}{A:bw}{R:be}{at_ g m n:H}{σ aC:St}
theorem World.yr(h:World xs M T S A R at_ (g+1) σ){a b:H}{oC lb:au}(mZ:hu T a oC)(r3:hu T b lb)(he:a=b->oC=lb):Tb xs M T S A R at_ g m a b (oC||lb) σ:=by
 refine cps fun G bV=> ?_
 have jp:∀ {p:H->Prop},p a->p b->∀x∈ [a,b],p x:=fun aI ax=>cK.mpr ⟨aI,cK.mpr ⟨ax,nofun⟩⟩
 have no:∀ {z:H},z∈ [0,2,6,7]->z∉ [a,b]:=fun hz q=>by
  rcases dj.mp q with r|r
  ·exact mZ.low (r▸hz)
  ·exact r3.low (dt.mp r▸hz)
 obtain⟨hT,u,hY,l,eD,eY,gQ,hQ,hP,hm,s5,zn,fB,al8,amg⟩:=World.ys (m:=m) h (pv:= .lst [.int a,.int b]) (ts:=[a,b]) (.inr (.inl rfl)) (jp (mZ.parts h.inv.a8) (r3.parts h.inv.a8)) (by show 2 < 64;decide) (jp mZ.pt r3.pt) (.inl ⟨no (by decide),no (by decide)⟩)
 have mZ:=mZ.le gQ
 have r3:=r3.le gQ
 have lZ:∀ {r},hY.rows[u]?=D (.ab (.int 6::r))->u≠0:=fun cd q=>by
  have:=eY.inv.a8.oA (i:=0) (by decide)
  rw[<-q]at this
  exact absurd (bD ((gg cd).symm.trans this)) (by decide)
 have row:∀ {x y},l=[x,y]->hY.rows[u]?=D (.ab [.int 6,.ab ((cA [x,y]).map .int)]):=fun q=>by
  subst q
  rcases hQ with⟨q,_⟩|q|⟨_,q⟩
  ·exact nomatch q
  ·exact nomatch (ej q).2
  ·exact q
 have M5:∀ {x y:H},l=[x,y]->x≠y:=fun q=>by
  subst q
  exact hI ((l5.mp hP).1 _ (.head _))
 rcases aei hP hm with⟨q,z⟩|q|q
 ·subst z
  obtain rfl:=he rfl
  have Hg:u=a:=by
   rcases hQ with⟨vw,_⟩|vw|⟨vw,_⟩
   ·exact nomatch q.symm.trans vw
   ·exact(ej (vw.symm.trans q)).1
   ·rw[q]at vw;exact absurd vw (by show¬2<=1;decide)
  subst Hg
  exact bV ⟨hT,u,hY,eD,eY,gQ,mZ.lt,fun q=>mZ.low (q▸ .head _),fun x aA=>by rw[Bool.or_self];exact mZ.goal (k:=6) (xO mZ.lt aA),s5,fun h=>absurd rfl h⟩
 ·exact bV ⟨hT,u,hY,eD,eY,gQ,gh (row q),lZ (row q),fun x aA=>by rw[ajK];exact hu.two (row q) aA (M5 q) mZ r3,s5,fun _=>⟨_,row q,.inl rfl⟩⟩
 ·exact bV ⟨hT,u,hY,eD,eY,gQ,gh (row q),lZ (row q),fun x aA=>hu.two (row q) aA (M5 q) r3 mZ,s5,fun _=>⟨_,row q,.inr rfl⟩⟩
noncomputable def Ob(way t o:H)(b c:au):Loc:=[D (.obj 1),D (.obj 2),D (.int way),D (.int t),D (.bool b),D (.int o),D (.bool c)]
theorem VS{y:H}(h:y < 2):kY (-(y:O))=(1:H):=by
 rcases Cr.mp (o0 h)with e|e
 ·rw[e];rfl
 ·rw[e];rfl
theorem World.over(h:World xs M T S A R at_ (g+20) σ):SM xs M T S A R g m σ:=by
 refine cps fun G bV=> ?_
 obtain⟨aC,way,ajh,aT,a9,s1⟩:=World.hp (g:=g+19) (m:=m+5) h (n:=8) (by decide)
 obtain⟨bn,eK,t,kz,aX,bE,ci,jh,s2⟩:=World.PW (g:=g+14) (m:=m) a9
 obtain⟨ct,iU,tp,C4,bZ,cG,fJ,PV,s3⟩:=World.PW (g:=g+9) (m:=m) bE
 have jh:=jh.le fJ
 have lT:=(s1.trans s2).trans s3
 have iB:=ci.trans fJ
 have p7:=cG.inv.a8
 have go:gd PP (az PP (m+6)) (Dq.drop 3) (Ob way t tp kz C4) ct (nv (m+6) 79 [.obj 1,.obj 2] σ):=run (m+6) 79 [.obj 1,.obj 2] σ aT aX bZ
 clear aT aX bZ a9 bE s1 s2 s3 ci fJ h
 have yi:t≠0:=gu jh.big (by decide)
 have low:∀ {i:H},i∈ [0,1,2,3,4,5,6,7]->i < iU.rows.length/\me iU i ae/\∀x,iU.rows.length<=x->jM iU i [x] 8 ae:=fun hi=>by
  obtain⟨r,e⟩:=iY (p7.oA hi)
  have l:me iU _ ae:= .e8 e (by decide) (by decide) (by decide)
  exact⟨gh e,l,fun x aA=>Bj (k':=6) (xO (gh e) aA) e (by decide) (by decide) l⟩
 refine FD (p:=fun way=>gd PP (az PP (m+6)) (Dq.drop 3) (Ob way t tp kz C4) ct (nv (m+6) 79 [.obj 1,.obj 2] σ)->G) (fun go=> ?_) (fun go=> ?_) (fun go=> ?_) (fun go=> ?_) (fun go=> ?_) (fun go=> ?_) (fun go=> ?_) (fun go=> ?_) way ajh go
 ·obtain⟨iq,y,gx,dP,eH,s4⟩:=World.hp (g:=g+8) (m:=m+5) cG (n:=2) (by decide)
  obtain⟨hT,hY,x,eD,eY,gQ,te,s5⟩:=World.tr (g:=g+7) (m:=m+4) eH (name:= .str ⟨#[84]⟩) (VS gx) (low (by decide)).1 (low (by decide)).2.2
  exact bV ⟨hT,hY,x,ae,_,go rfl dP eD,eY.less (cn ..),iB.trans gQ,te,(lT.trans s4).trans s5⟩
 ·obtain⟨hT,hY,x,eD,eY,gQ,te,s5⟩:=World.tr (g:=g+8) (m:=m+4) cG (name:= .str ⟨#[84]⟩) (uh yi) jh.lt (fun x aA=>jh.goal (k:=6) (xO jh.lt aA))
  exact bV ⟨hT,hY,x,kz,_,go rfl rfl eD,eY.less (cn ..),iB.trans gQ,te,lT.trans s5⟩
 ·obtain⟨hT,hY,v,eD,eY,gQ,oM,V2,_,s5⟩:=World.param (g:=g+8) (m:=m+4) cG (name:= .str ⟨#[86]⟩) (dflt:= .int (-1)) (b:=(t:O))
  have aH:=cG.fresh gQ oM
  obtain⟨iN,m1,x,hL,gk,j1,tf,s6⟩:=World.tr (g:=g+7) (m:=m+4) eY (name:= .str ⟨#[84]⟩) (b:=kz) (uh fun q=>yI _ (q▸gm jh.lt aH)) (gh oM) (fun x aA=> .param (xO (gh oM) aA) oM V2 (uh yi) (hI (gm jh.lt aH)) (c9 (cp (cn ..) cG.room.dq) (by decide)) ((jh.le gQ).goal (k:=5) (Bb (hI (gm (jh.le gQ).lt aA)) (hI (gm jh.lt aH)))))
  exact bV ⟨iN,m1,x,kz,_,go rfl rfl rfl eD hL,gk.less (cn ..),(iB.trans gQ).trans j1,tf,(lT.trans s5).trans s6⟩
 ·obtain⟨hT,u,hY,eD,eY,gQ,Hh,lZ,i1,s5,_⟩:=World.yr (g:=g+8) (m:=m+2) cG jh.leaf (D9 p7) (fun q=>absurd jh.big (by rw[q];decide))
  obtain⟨iN,m1,x,hL,gk,j1,tf,s6⟩:=World.tr (g:=g+7) (m:=m+4) eY (name:= .str ⟨#[84]⟩) (uh lZ) Hh i1
  rw[Hu]at tf
  exact bV ⟨iN,m1,x,ae,_,go rfl rfl rfl rfl eD hL,gk.less (cn ..),(iB.trans gQ).trans j1,tf,(lT.trans (s5.dC (by decide))).trans s6⟩
 ·obtain⟨hT,hY,x,eD,eY,gQ,te,s5⟩:=World.tr (g:=g+8) (m:=m+4) cG (name:= .str ⟨#[84]⟩) (bd:=6) (t:=6) rfl (low (by decide)).1 (low (by decide)).2.2
  exact bV ⟨hT,hY,x,ae,_,go rfl rfl rfl rfl rfl eD,eY.less (cn ..),iB.trans gQ,te,lT.trans s5⟩
 ·obtain⟨iq,jN,y,dP,eH,hN,gw,_,s4⟩:=World.put (g:=g+8) (m:=m+5) cG (afj t)
  obtain⟨hT,hY,x,eD,eY,gQ,te,s5⟩:=World.tr (g:=g+7) (m:=m+4) eH (name:= .str ⟨#[84]⟩) (b:=ae) (uh (gu (eH.inv.a8.big gw (by decide)) (by decide))) (gh gw) (fun x aA=>Bj (k':=6) (xO (gh gw) aA) gw (by decide) (by decide) (.e8 gw (by decide) (by decide) (by decide)))
  exact bV ⟨hT,hY,x,ae,_,go rfl rfl rfl rfl rfl rfl cG.inv.tab.bT dP eD,eY.less (cn ..),(iB.trans hN).trans gQ,te,(lT.trans s4).trans s5⟩
 ·obtain⟨hT,u,hY,eD,eY,gQ,Hh,lZ,i1,s5,_⟩:=World.yr (g:=g+8) (m:=m+2) cG jh.leaf PV.leaf (fun q=>jh.uniq (q▸PV))
  obtain⟨iN,m1,x,hL,gk,j1,tf,s6⟩:=World.tr (g:=g+7) (m:=m+4) eY (name:= .str ⟨#[84]⟩) (uh lZ) Hh i1
  have iI:=gk.less (g':=g) (cn ..)
  have mF:=(iB.trans gQ).trans j1
  have s7:=(lT.trans (s5.dC (by decide))).trans s6
  cases kz with
  |true=>exact bV ⟨iN,m1,x,ae,_,go rfl rfl rfl rfl rfl rfl rfl eD hL,iI,mF,tf,s7⟩
  |false=>exact bV ⟨iN,m1,x,C4,_,go rfl rfl rfl rfl rfl rfl rfl eD hL,iI,mF,tf,s7⟩
 ·exact bV ⟨ct,iU,t,kz,_,go rfl rfl rfl rfl rfl rfl rfl,cG.less (cn ..),iB,⟨jh.big,jh.BN,.inr jh⟩,lT⟩
end
theorem tI{T:ak}(h:cP T):T.rows[4]?=D (.ab [.int 1,.str ⟨#[117,110,100,101,102,105,110,101,100]⟩]):=h.first 4 (by decide)
theorem Zj{T:ak}(h:cP T):iS T 4:=⟨1,_,tI h,h.good _ _ _ (tI h) (by decide) (by decide),.inl rfl⟩
theorem KZ{T:ak}(h:cP T):gY T 4 (cA [4]):=vm h (tI h) (by decide) (by decide)
theorem gY.four{T:ak}(b8:cP T){t:H}{l:I O}(b1:t=4):gY T t l->l=[((4:H):O)]
 |.never e=>absurd (b1.symm.trans e) (by decide)
 |.union a _ _=>absurd (V.int.inj (ej (V.ab.inj (bD ((tI b8).symm.trans (b1▸a))))).1) (by decide)
 |.one _ _ _ _=>b1▸rfl
inductive Tc(xs:I O)(M:O)(T:ak)(S:I (V×V))(A:bw)(R:be)(at_ g m t:H)(ps:I H)(σ:St):Prop
 |mk (af:St) (u:H) (aB:ak) (l:I H) (e:az PP (m+5) 15 [.obj 2,.int t] σ=D (.int (u:H),af)) (w:World xs M aB S A R at_ g af) (le:T.bJ aB) (r:jl aB u l) (hP:l.Pairwise (· < ·)) (mem:∀x,x∈l↔x∈ps++ [4]) (s:bx fc σ af) (bounds:aB.bounds=T.bounds) (decls:aB.decls=T.decls)
inductive Tj(xs:I O)(M:O)(T:ak)(S:I (V×V))(A:bw)(R:be)(at_ g m goal:H)(opt:O)(σ:St):Prop
 |mk (aC:St) (want:H) (du:ak) (hw:ph m opt goal σ want aC) (w:World xs M du S A R at_ g aC) (l:T.bJ du)
section
variable {xs:I O}{M:O}{T aB:ak}{S:I (V×V)}{A:bw}{R:be}{at_ g m n:H}{σ aC:St}
theorem World.undef(h:World xs M T S A R at_ (g+1) σ){t:H}{ps:I H}(ao:gY T t (cA ps))(aj:ps.length < 60)(ot:∀x∈ps,iS T x)(hw:y4 T (ps++ [4])):Tc xs M T S A R at_ g m t ps σ:=by
 have a8:=h.inv.a8
 have aT:(if t=4 then [4]else ps)=ps:=by
  by_cases q:t=4
  ·rw[a7 q];exact(F2 (ao.four a8 q)).symm
  ·rw[bz q]
 have aX:[t,4].flatMap (fun z=>if z=4 then [4]else ps)=ps++ [4]:=by
  show(if t=4 then [4]else ps)++([4]++ [])=_
  rw[aT];rfl
 have u:=World.union (m:=m) h (pv:= .ab [.int t,.int 4]) (ts:=[t,4]) (pf:=fun z=>if z=4 then [4]else ps) (.inl rfl)
  (cK.mpr ⟨by rw[aT];exact ao,cK.mpr ⟨KZ a8,nofun⟩⟩)
  (by rw[aX,jg];exact c9 aj (by decide))
  (by
   rw[aX]
   exact fun z hz=>(l4.mp hz).elim (ot z) fun q=>dt.mp q▸Zj a8)
  (by rw[aX];exact hw)
 rw[aX]at u
 obtain⟨af,u,aB,l,fK,eu,eG,nQ,nR,jE,oP,vO,vP,vN,Hf⟩:=u
 exact⟨af,u,aB,l,run (m+4) 15 [.obj 2,.int t] σ fK,eu,eG,nQ,nR,jE,oP.dC (by decide),vO,vP⟩
noncomputable def qr(T:ak)(goal:H):Prop:=∃k rest,T.rows[goal]?=D (.ab (.int k::rest))/\k≠6/\goal≠2/\iS T goal/\oT k= -1
theorem qr.le{T aB:ak}(h:T.bJ aB){t:H}:qr T t->qr aB t
 |⟨k,rest,e,b,c,d,f⟩=>⟨k,rest,h.row e,b,c,d.le h,f⟩
theorem sN{T:ak}{t:H}{k k':O}{r f3:I V}(e:T.rows[t]?=D (.ab (.int k::r)))(cH:T.rows[t]?=D (.ab (.int k'::f3))):k=k':=V.int.inj (ej (V.ab.inj (bD (e.symm.trans cH)))).1
theorem World.aiT(h:World xs M T S A R at_ (g+1) σ){goal:H}{opt:O}(bR:qr T goal):Tj xs M T S A R at_ g m goal opt σ:=by
 by_cases aR:opt=1
 ·obtain⟨k,rest,e,c7,ah,pt,wp⟩:=bR
  have a8:=h.inv.a8
  obtain⟨af,u,aB,l,fK,eu,eG,_⟩:=World.undef (m:=m+55) h (t:=goal) (ps:=[goal]) (vm a8 e c7 ah) (by show 1 < 60;decide) (fun x aA=>dt.mp aA▸pt) (.inr (cK.mpr ⟨fun k' f3 cH=>sN e cH▸wp,cK.mpr ⟨fun k' f3 cH=>sN (tI a8) cH▸rfl,nofun⟩⟩))
  exact⟨af,u,aB,.more aR h.inv.host fK,eu,eG⟩
 ·exact⟨σ,goal,T,.same aR,h.less (eJ g),ak.bJ.refl T⟩
theorem World.ah8(h:World xs M T S A R at_ (g+70) σ){t pid over goal P i:H}{nm opt ro:O}{a:V}{k:O}{rest:I V}{iy:au}{o:cX}(c5:T.rows[t]?=D a)(aI:a= .ab (.int k::rest))(am:k=8\/k=9)(he:∀m σ,az PP (m+1) 67 [a] σ=D (.bool iy,σ))(aZ:(decide (opt=1) && (iy && decide (M≠4)))=aw)
  (s:gq T t i o) (aj:o.props.length<=4) (ko:T.rows[P]?=D (.ab [.int 10,.int pid])) (bR:qr T goal) (aaa:T.rows[goal]?≠D (gD t P)) (mw:∀aB,T.bJ aB->mV aB M S over o aw):
  yZ xs M T S R at_ g (m+62) 68 [.obj 12,.int t,a,ez pid over nm goal opt ro] (.bool aw) σ:=by
 by_cases bg:0<=nm\/opt=2
 ·exact⟨σ,T,A,R,h.PY (m:=m+60) aI am he aZ bg,h.less (cn ..),ak.bJ.refl T,el.refl R⟩
 ·have ⟨dR,dq⟩:=qp.mp bg
  obtain⟨aC,du,mem,aT,a9,cL,em,_,_⟩:=World.member (g:=g+69) (m:=m+58) h (t:=t) (b:=ez pid over nm goal opt ro) rfl ko
  obtain⟨bn,want,eK,hw,bE,ci⟩:=World.aiT (g:=g+68) (m:=m) (opt:=opt) a9 (bR.le cL)
  have lI:=cL.trans ci
  obtain⟨ct,iU,i5,gA,bZ,cG,fJ,fY⟩:=World.JB (g:=g+8) (m:=m) (ro:=ro) (pid:=pid) (nm:=nm) bE (s.le lI) aj hw a9.dJ (mw _ lI)
  have fH:t≠2:=fun q=>by
   rw[aI,q]at c5
   exact oE am (by decide) (bD ((gg c5).symm.trans h.inv.a8.oz))
  have z9:goal≠mem:=fun q=>by
   obtain⟨k',f3,jq,_⟩:=bR
   rw[<-q,cL.row jq]at em
   exact aaa (jq.trans em)
  exact⟨ct,iU,i5,gA,h.G9 (m:=m) aI am he aZ (tQ.mp dR) dq aT z9 bZ cG ((s.le lI).le fJ) fH,cG.less (cn ..),lI.trans fJ,fY⟩
end
noncomputable def lU:aK:=⟨#[122]⟩
theorem PB{a b:aK}(h:eX a=eX b):a=b:=V.str.inj (ej (ej (V.ab.inj h)).2).1
theorem aiA{α:Type}:∀ {l:I α},2<=l.length->∃a b r,l=a::b::r
 |a::b::r,_=>⟨a,b,r,rfl⟩
 |[],h=>absurd h (aks 1)
 |[_],h=>absurd h (Nat.not_succ_le_self 1)
theorem pN{T:ak}{s t:H}{a b:O}(eg:aW T s=D a)(eW:aW T t=D b)(h:a≠b):s≠t:=fun q=>h (bD (eg.symm.trans (q▸eW)))
inductive IL(T:ak)(u:H):Prop
 |mk (k:O) (q:aW T u=D k) (am:k∈ [(1:O),3]) (p8:∀a,openK a=ae->m2 a u) (ne:∀s,16<=s->aW T s≠D 3->s≠u)
theorem Pb{T:ak}{o:cX}(a8:cP T)(aZ:T.rows.Nodup)(hz:∀p∈o.props,p.name=lU){u:H}{ns:I H}(n:iR T u ns)(hP:ns.Pairwise (· < ·))(hm:∀x,x∈ns↔∃p∈o.props,p.fl &&& 24=0/\T.rows[x]?=D (eX p.name)):IL T u:=by
 have row:∀x∈ns,T.rows[x]?=D (eX lU):=fun x aA=>have ⟨p,ao,_,e⟩:=(hm x).mp aA;hz p ao▸e
 cases n with
 |never=>exact⟨1,a8.oz,.head _,fun a h=> .inr ⟨rfl,h⟩,fun s h _=>gu h (by decide)⟩
 |one h=>exact⟨3,h,.tail _ (.head _),fun a _=> .inl (hB (mC a8 h (by decide))),fun s _ aN q=>aN (q▸h)⟩
 |union h ah aN=>
  obtain⟨a,b,r,rfl⟩:=aiA ah
  exact absurd (mJ aZ (row a (.head _)) (row b (.tail _ (.head _)))) (hI ((l5.mp hP).1 b (.head _)))
theorem QK{T:ak}{M:O}{S:I (V×V)}{u cO n:H}(a8:cP T)(er:aW T cO=D 14):IL T u->cy T M S (n+1) cO u=D (aw,1)
 |⟨k,q,am,p8,ne⟩=>
  have b:=mC a8 er (by decide)
  Dd er q (ne cO b fun z=>absurd (bD (er.symm.trans z)) (by decide)) (hB b) (p8 14 (by decide)) ((by decide:∀k∈ [(1:O),3],x3 14 k=ae) k am)
theorem Ub{T:ak}{M:O}{S:I (V×V)}{over x:H}{o:cX}(e:T.rows[over]?=D (.ab [.int 14,.int x]))(hz:∀p∈o.props,p.name=lU):mV T M S over o aw:=fun aB u ns le a8 cj n hN hP hm=>⟨1,by decide,QK a8 (gg (le.row e)) (Pb a8 cj hz n hP hm)⟩
theorem Ud{T:ak}{M:O}{S:I (V×V)}{over cO x:H}{o:cX}(ax:nI T over=D (cO:O))(gL:cO < over)(e:T.rows[cO]?=D (.ab [.int 14,.int x]))(hz:∀p∈o.props,p.name=lU):mV T M S over o aw:=fun aB u ns le a8 cj n hN hP hm=>by
 have QJ:=Pb a8 cj hz n hP hm
 have er:=gg (le.row e)
 have r:=QK (M:=M) (S:=S) (n:=4) a8 er QJ
 obtain⟨k,q,am,p8,ne⟩:=QJ
 have pF:=Bo le ax
 have nu:=xX pF
 obtain⟨ag,ah⟩:=(by decide:∀k∈ [(1:O),3],gG k=aw/\k≠6) k am
 exact⟨2,by decide,IZ (n:=5) a8 pF (gm (by decide) (mC a8 er (by decide))) gL q (ne over (mC a8 nu (by decide)) fun z=>absurd (bD (nu.symm.trans z)) (by decide)) (p8 10 (by decide)) ag ah r⟩
theorem iR.le{T aB:ak}(h:T.bJ aB){u:H}{ns:I H}:iR T u ns->iR aB u ns
 |.never=> .never
 |.one e=> .one (uY h e)
 |.union e ah aN=> .union (Fi h e) ah fun p ao=>uY h (aN p ao)
theorem Tf{M:O}{nB ns:I H}(ag:nB≠ [])(nD:∀x∈nB,x∉ns):iV M nB ns=aw:=by
 obtain⟨a,r,rfl⟩:=List.exists_cons_of_ne_nil ag
 unfold iV
 split
 ·exact QZ.mpr fun x aA q=>nD x aA (gy q)
 ·exact(bs (· && _) (ek (nD a (.head _)))).trans rfl
theorem Uc{T:ak}{M:O}{S:I (V×V)}{over:H}{nB:I H}{o:cX}(aZ:iR T over nB)(ag:nB≠ [])(aj:nB.length<=4)(cc:∀x∈nB,T.rows[x]?≠D (eX lU)/\x < T.rows.length)(hz:∀p∈o.props,p.name=lU):mV T M S over o aw:=fun aB u ns le a8 cj n hN hP hm=>by
 obtain⟨c,aE,e⟩:=IY (M:=M) (S:=S) a8 (.names (aZ.le le)) aj n hN
 rw[Tf ag fun x aA q=>by
  obtain⟨p,ao,_,e⟩:=(hm x).mp q
  obtain⟨ag,ah⟩:=cc x aA
  obtain⟨ex,he⟩:=le.rows
  rw[hz p ao,he,jJ ah]at e
  exact ag e]at e
 exact⟨c,cp aE (by decide),qD (by decide) e⟩
structure Iv(T:ak)(M:O)(S:I (V×V))(over x how:H):Prop where
 row:∃er hk,T.rows[over]?=D (.ab (.int er::hk))/\(er=14↔how < 2)/\(er=14->hk=[.int x])
 ask:∀o:cX,(∀p∈o.props,p.name=lU)->∀aB,T.bJ aB->mV aB M S over o aw
theorem GB(x:H):iT (.ab [.int 14,.int x]):=⟨rfl,rfl,14,_,rfl,fun _ _=>⟨14,_,rfl,by decide,fun q=>absurd q (by decide),by show 1 < 50;decide⟩,fun q=>absurd q (by decide),by decide,by decide⟩
noncomputable abbrev Oc:I KK.S:=[.set 11 (.b6 (.aq 1) 10 [.ab [.lit (.int 14),.aq 5]]),.iff (.ay .eq (.aq 7) (.lit (.int 2))) [.set 11 (.call 6 [.aq 1,.lit (.str ⟨#[75]⟩),.aq 11,.neg (.lit (.int 1))])] [],.iff (.ay .eq (.aq 7) (.lit (.int 3))) [.set 11 (.call 14 [.aq 1,.lst [.b6 (.aq 1) 10 [.ab [.lit (.int 3),.lit (.str ⟨#[112]⟩),.lit (.int 0)]],.b6 (.aq 1) 10 [.ab [.lit (.int 3),.lit (.str ⟨#[113]⟩),.lit (.int 0)]]]])] []]
noncomputable def FO(M:O)(way x:H)(b:au)(how:H)(v8 v9 v10 v11:aJ V):Loc:=[D (.obj 1),D (.obj 2),D (.obj 12),D (.int M),D (.int way),D (.int x),D (.bool b),D (.int how),v8,v9,v10,v11,aa,aa,aa,aa,aa,aa,aa,aa,aa,aa]
inductive SJ(xs:I O)(M:O)(T:ak)(S:I (V×V))(A:bw)(R:be)(at_ g m way x:H)(b:au)(how:H)(v8 v9 v10:aJ V)(σ:St):Prop
 |mk (af:St) (aB:ak) (over:H) (w:World xs M aB S A R at_ g af) (l:T.bJ aB) (ok:Iv aB M S over x how) (s:bx fc σ af)
  (go:∀ {g6 ar},gd PP (az PP (m+5)) (Oc++g6) (FO M way x b how v8 v9 v10 aa) σ ar->gd PP (az PP (m+5)) g6 (FO M way x b how v8 v9 v10 (D (.int (over:H)))) af ar)
section
variable {xs:I O}{M:O}{T aB:ak}{S:I (V×V)}{A:bw}{R:be}{at_ g m n:H}{σ aC:St}
theorem World.ad8(h:World xs M T S A R at_ (g+10) σ){way x how:H}{b:au}{v8 v9 v10:aJ V}(bu:how < 4)(aA:x < T.rows.length):SJ xs M T S A R at_ g m way x b how v8 v9 v10 σ:=by
 obtain⟨aC,du,cO,aT,a9,cL,dR,_,s1⟩:=World.put (g:=g+9) (m:=m+4) h (GB x)
 by_cases ah:how=2
 ·obtain⟨bn,eK,k,aX,bE,ci,dq,dM,_,s2⟩:=World.param (g:=g+8) (m:=m+3) a9 (name:= .str ⟨#[75]⟩) (dflt:= .int (-1)) (b:=(cO:O))
  have tt:nI eK k=D (cO:O):=Oh dq dM (c9 (cp (cn ..) a9.room.dq) (by decide))
  exact⟨bn,eK,k,bE.less (cn ..),cL.trans ci,⟨⟨10,_,dq,⟨fun q=>absurd q (by decide),fun q=>absurd (ah▸q) (by decide)⟩,fun q=>absurd q (by decide)⟩,fun o hz aB le=>Ud (Bo le tt) (gm (gh dR) (a9.fresh ci dq)) (le.row (ci.row dR)) hz⟩,s1.trans s2,
   fun go=>go h.inv.tab.bT aT (eqT (bs l3 ah)) aX (bf (by rw[ah];decide))⟩
 ·by_cases aN:how=3
  ·obtain⟨bn,eK,p,aX,bE,ci,dq,_,s2⟩:=World.put (g:=g+8) (m:=m+4) a9 (ry ij)
   obtain⟨ct,iU,q,bZ,cG,fJ,e2,_,s3⟩:=World.put (g:=g+7) (m:=m+4) bE (ry j5)
   have p7:=cG.inv.a8
   have By:=fJ.row dq
   have jp:∀ {P:H->Prop},P p->P q->∀x∈ [p,q],P x:=fun aI ax=>cK.mpr ⟨aI,cK.mpr ⟨ax,nofun⟩⟩
   have big:∀x∈ [p,q],16<=x:=jp (p7.big By (by decide)) (p7.big e2 (by decide))
   obtain⟨iq,u,jN,l,dP,eH,hN,hQ,hP,hm,s4,kl,zK,sQ,amf⟩:=World.ys (g:=g+6) (m:=m+1) cG (pv:= .lst [.int p,.int q]) (ts:=[p,q]) (.inr (.inl rfl)) (jp (BR p7 By) (BR p7 e2)) (by show 2 < 64;decide) (jp (BS p7 By) (BS p7 e2)) (.inl ⟨fun z=>absurd (big _ z) (by decide),fun z=>absurd (big _ z) (by decide)⟩)
   have rows:∀z∈l,∃n,n≠lU/\jN.rows[z]?=D (eX n):=fun z hz=>jp (P:=fun z=>∃n,n≠lU/\jN.rows[z]?=D (eX n)) ⟨ij,by decide,hN.row By⟩ ⟨j5,by decide,hN.row e2⟩ z ((hm z).mp hz)
   have nm:iR jN u l:=hQ.nms eH.inv.a8 fun z hz=>have ⟨_,_,e⟩:=rows z hz;GZ e
   have nn:∃er hk,jN.rows[u]?=D (.ab (.int er::hk))/\er≠14:=by
    have fin:∀ {k:O},aW jN u=D k->k≠14->∃er hk,jN.rows[u]?=D (.ab (.int er::hk))/\er≠14:=fun am h=>have ⟨r,e⟩:=iY am;⟨_,r,e,h⟩
    rcases nm.aW eH.inv.a8 with⟨_,am,_⟩|⟨_,am,_⟩|⟨_,am,_⟩
    ·exact fin am (by decide)
    ·exact fin am (by decide)
    ·exact fin am (by decide)
   obtain⟨er,hk,nd,NA⟩:=nn
   exact⟨iq,jN,u,eH.less (cn ..),((cL.trans ci).trans fJ).trans hN,⟨⟨er,hk,nd,⟨fun q=>absurd q NA,fun q=>absurd (aN▸q) (by decide)⟩,fun q=>absurd q NA⟩,fun o hz aB le=>Uc (nm.le le) (fun e=>nomatch e▸(hm p).mpr (.head _)) (cp sQ (by show 2<=4;decide)) (fun z hz=>by
     obtain⟨n,aZ,e⟩:=rows z hz
     exact⟨fun q=>aZ (PB (bD ((le.row e).symm.trans q))),gh (le.row e)⟩) hz⟩,((s1.trans s2).trans s3).trans (s4.dC (by decide)),
    fun go=>go h.inv.tab.bT aT (bf (dB ah)) (eqT (bs l3 aN)) a9.inv.tab.bT aX bE.inv.tab.bT bZ dP⟩
  ·have lt:how < 2:=HJ (o0 (HJ (o0 bu) aN)) ah
   exact⟨aC,du,cO,a9.less (cn ..),cL,⟨⟨14,_,dR,⟨fun _=>lt,fun _=>rfl⟩,fun _=>rfl⟩,fun o hz aB le=>Ub (le.row dR) hz⟩,s1,fun go=>go h.inv.tab.bT aT (bf (dB ah)) (bf (dB aN))⟩
end
noncomputable def fg{α:Type}(n:H)(c:O)(v w:α):α:=if decide ((n:O)=c)then v else w
theorem x8{n:H}{c:O}{v w:V}{d:H}(aH:V.gS d v=ae)(hw:V.gS d w=ae):V.gS d (fg n c v w)=ae:=by
 unfold fg;split
 ·exact aH
 ·exact hw
noncomputable def QA:fy:=⟨lU,7,0,0⟩
noncomputable def f6(cf:H)(cV:H):cX:=
 {props:=fg cf 3 [QA] [],calls:=fg cf 6 (.ab [.int cV]) (.ab []),ctors:=fg cf 7 (.ab [.int cV]) (.ab []),gO:=fg cf 5 (.ab [.int 7,.int 0]) (.ab []),mz:=fg cf 4 (.ab [.int 7,.int 0]) (.ab []),flag:=fg cf 1 1 0}
theorem OZ(cf:H)(cV:H):V.fS [(f6 cf cV).calls,(f6 cf cV).ctors,(f6 cf cV).gO,(f6 cf cV).mz]=ae:=by
 show(V.gS 4 _ && (V.gS 4 _ && (V.gS 4 _ && (V.gS 4 _ && ae))))=ae
 rw[f6,x8 rfl rfl,x8 rfl rfl,x8 rfl rfl,x8 rfl rfl];rfl
theorem O0(cf:H)(cV:H):∀p∈(f6 cf cV).props,p.name=lU:=fun p ao=>by
 unfold f6 fg at ao
 dsimp only at ao
 split at ao
 ·exact dt.mp ao▸rfl
 ·exact nomatch ao
theorem afy(cf:H)(cV:H):(f6 cf cV).props.length<=4:=by
 unfold f6 fg;dsimp only;split
 ·show 1<=4;decide
 ·exact kL _
theorem afw{cV:H}:∀ {cf:H},cf < 8->(f6 cf cV).empty=decide ((cf:O) < 3):=fun{cf} h=>FD (p:=fun cf=>(f6 cf cV).empty=decide ((cf:O) < 3)) rfl rfl rfl rfl rfl rfl rfl rfl cf h
noncomputable def rp(cf how:H)(stays:au):I O:=fg cf 0 [11] []++(if decide ((how:O) < 2) && stays then [15]else [])
theorem Nr(cf how:H)(stays:au):jR (rp cf how stays)=rp cf how stays/\(rp cf how stays).length < 40:=by
 unfold rp fg
 generalize decide ((cf:O)=0)=a
 generalize (decide ((how:O) < 2) && stays)=b
 cases a <;>cases b <;>exact⟨rfl,by decide⟩
theorem GI{α dg:Type}{n:H}{c:O}{v w:α}(f:α->dg):fg n c (f v) (f w)=f (fg n c v w):=by
 unfold fg;split <;>rfl
theorem afz{cf cV:H}:fg cf 3 (V.ab [.ab [.str ⟨#[122]⟩,.int 7,.int 0,.int 0]]) (.ab [])= .ab ((f6 cf cV).props.map pv):=GI (v:=[QA]) (w:=[]) fun l=>V.ab (l.map pv)
theorem afx{cf cV:H}:fg cf 1 (V.int 1) (V.int 0)=V.int (f6 cf cV).flag:=GI V.int
theorem acQ{cf how:H}{stays:au}:hM .add (fg cf 0 (.lst [.int 11]) (.lst [])) (if(decide ((how:O) < 2) && stays)then .lst [.int 15]else .lst [])=D (.lst ((rp cf how stays).map .int)):=by
 unfold rp fg
 generalize decide ((cf:O)=0)=a
 generalize (decide ((how:O) < 2) && stays)=b
 cases a <;>cases b <;>rfl
theorem afk{T:ak}(a8:cP T){i:H}(hi:i=6\/i=7):qr T i/\∀s P,T.rows[i]?≠D (gD s P):=by
 obtain⟨r,e⟩:=iY (a8.oA (i:=i) (by rcases hi with rfl|rfl <;>decide))
 exact⟨⟨1,r,e,by decide,by rcases hi with rfl|rfl <;>decide,⟨1,r,e,a8.good _ _ _ e (by decide) (by decide),.inr (.inr (hi.elim .inl fun q=> .inr (.inl q)))⟩,rfl⟩,fun s P q=>absurd (sN e q) (by decide)⟩
noncomputable abbrev BE:KK.S:= .set 12 (.call 6 [.aq 1,.lit (.str ⟨#[80]⟩),.aq 11,.neg (.lit (.int 1))])
noncomputable abbrev K8:KK.S:= .set 13 (.ite (.ay .eq (.aq 9) (.lit (.int 2))) (.b6 (.aq 1) 10 [.ab [.lit (.int 15),.aq 5,.aq 12]]) (.bin .add (.lit (.int 6)) (.aq 9)))
noncomputable abbrev A7:I KK.S:=[.iff (.ay .eq (.aq 4) (.lit (.int 2))) [.set 19 (.call 77 [.aq 1,.aq 19])] []]
noncomputable def pS(M:O)(way x:H)(b:au)(how:H)(v8 v9 v10 v11 fh dr d0 d1 ft d2 eA gU fI eB:aJ V):Loc:=[D (.obj 1),D (.obj 2),D (.obj 12),D (.int M),D (.int way),D (.int x),D (.bool b),D (.int how),v8,v9,v10,v11,fh,dr,d0,d1,ft,d2,eA,gU,fI,eB]
noncomputable def Bl:H->O
 |2=>0
 |4=>2
 |_=>1
theorem ad4{σ:St}{y:H}(h:y < 5):ee σ (.ab [.int 1,.int 1,.int 0,.int 1,.int 2]) (.int y)=D (.int (Bl y)):=rl (p:=fun y=>ee σ (.ab [.int 1,.int 1,.int 0,.int 1,.int 2]) (.int y)=D (.int (Bl y))) rfl rfl rfl rfl rfl y h
theorem E1{α:Type}{c d:Prop}[oV c][oV d]{a b:α}(h:c↔d):(if c then a else b)=if d then a else b:=ite_congr (propext h) (fun _=>rfl) fun _=>rfl
noncomputable def Fs(cf:H)(opt M:O):au:=decide ((cf:O) < 2) && (decide (opt=1) && !decide (M=4))
section
variable {xs:I O}{M:O}{T aB:ak}{S:I (V×V)}{A:bw}{R:be}{at_ g m n:H}{σ aC:St}
section
variable {C:Cl}{J:Loc}{c a b d:E}{t s p:au}{v w:V}
theorem oy(aE:aG PP C c J σ=D (.bool t,σ))(aI:aG PP C a J σ=D (v,σ))(ax:aG PP C b J σ=D (w,σ)):aG PP C (.ite c a b) J σ=D (if t then v else w,σ):=by
 cases t
 ·exact uX (t:=aw) aE rfl ax
 ·exact uX (t:=ae) aE rfl aI
theorem D0{i n:H}{k:O}(h:c2 J i=D (.int n)):aG PP C (.ay .eq (.aq i) (.lit (.int k))) J σ=D (.bool (decide ((n:O)=k)),σ):=gc (bF h) cE rfl
theorem oN{i n:H}{k:O}(h:c2 J i=D (.int n))(aI:aG PP C a J σ=D (v,σ))(ax:aG PP C b J σ=D (w,σ)):aG PP C (.ite (.ay .eq (.aq i) (.lit (.int k))) a b) J σ=D (fg n k v w,σ):=oy (D0 h) aI ax
theorem wu(aI:aG PP C a J σ=D (.bool t,σ))(ax:aG PP C b J σ=D (.bool s,σ)):aG PP C (.and [a,b]) J σ=D (.bool (t && s),σ):=by
 cases t
 ·exact zh aI rfl
 ·exact zi aI rfl (IW ax)
theorem IU(aI:aG PP C a J σ=D (.bool t,σ))(ax:aG PP C b J σ=D (.bool s,σ))(hd:aG PP C d J σ=D (.bool p,σ)):aG PP C (.and [a,b,d]) J σ=D (.bool (t && (s && p)),σ):=by
 cases t
 ·exact zh aI rfl
 ·exact zi aI rfl (wu (t:=s) (s:=p) ax hd)
end
theorem acR{cf x t i P pid over goal cV how:H}{stays iy:au}{a:V}{k nm opt ro:O}{rest:I V}(ok:Iv T M S over x how)(cO:qv T x stays)(rA:gq T t i (f6 cf cV))(c5:T.rows[t]?=D a)(aI:a= .ab (.int k::rest))(am:k=8\/k=9)
  (ni:∀m σ,az PP (m+1) 67 [a] σ=D (.bool iy,σ)) (xd:iy=decide ((cf:O) < 2)) (Ak:cf < 2->a=(f6 cf cV).row) (ko:T.rows[P]?=D (.ab [.int 10,.int pid])) (uK:qr T goal) (Aa:T.rows[goal]?≠D (gD t P)):
  za xs M T S at_ t (ez pid over nm goal opt ro) (Fs cf opt M) (if Fs cf opt M then rp cf how stays else []):=by
 intro m mi aB A R g σ le Kn w
 obtain rfl:a=mi:=bD ((le.row c5).symm.trans Kn)
 cases aj:Fs cf opt M with
 |true=>
  have ⟨ag,ah⟩:=ei.mp aj
  have ⟨ah,aN⟩:=ei.mp ah
  have Qu:cf < 2:=fv.mp (gy ag)
  obtain rfl:=gy ah
  have e9:M≠4:=fun q=>by rw[cW q]at aN;cases aN
  rw[Ak Qu]at ni ⊢
  rw[xd,ag]at ni
  obtain⟨er,hk,hh,xh,aaj⟩:=ok.row
  obtain⟨af,R',cH,w',k'⟩:=World.ah7 (g:=g+198) (m:=m) w (t:=t) (pid:=pid) (over:=over) (goal:=goal) (nm:=nm) (ro:=ro) (o:=f6 cf cV) (stays:=stays) ni e9 (le.row hh) (fun q=>⟨x,aaj q,(cO.le le).BN⟩)
  refine⟨af,aB,A,R',cH,w'.less (cn ..),ak.bJ.refl aB, ?_⟩
  rw[a7 rfl,show rp cf how stays=_ from ?_]
  ·exact k'
  ·refine congr (bs _ ?_) (E1 (ei.trans (and_congr (R1.trans (fv.trans xh.symm)) Hx)))
   rcases Cr.mp (o0 Qu)with q|q
   ·rw[q];rfl
   ·rw[q];rfl
 |false=>
  have aZ:(decide (opt=1) && (iy && decide (M≠4)))=aw:=by rw[xd,R3,Bool.and_left_comm];exact aj
  obtain⟨uZ,x1,jq,_⟩:=id uK
  obtain⟨af,eK,A',R',cH,w',eP,k'⟩:=World.ah8 (g:=g+130) (m:=m) w (t:=t) (pid:=pid) (over:=over) (goal:=goal) (P:=P) (i:=i) (nm:=nm) (opt:=opt) (ro:=ro) (o:=f6 cf cV) Kn aI am ni aZ (rA.le le) (afy _ _) (le.row ko) (uK.le le) (fun q=>Aa (jq.trans ((le.row jq).symm.trans q)))
   (fun IB ab1=>ok.ask _ (O0 _ _) _ (le.trans ab1))
  exact⟨af,eK,A',R',cH,w'.less (cn ..),eP,k'.nil⟩
inductive Sq(xs:I O)(M:O)(T:ak)(S:I (V×V))(A:bw)(R:be)(at_ g m way x:H)(b:au)(how cY P:H)(v8 v10 v11:aJ V)(σ:St):Prop
 |mk (af:St) (aB:ak) (goal:H) (w:World xs M aB S A R at_ g af) (l:T.bJ aB) (uK:qr aB goal) (Aa:∀s,s≠x->aB.rows[goal]?≠D (gD s P)) (s:bx fc σ af)
  (go:∀ {ar},gd PP (az PP (m+1)) [K8] (pS M way x b how v8 (D (.int cY)) v10 v11 (D (.int P)) aa aa aa aa aa aa aa aa aa) σ ar->ar .next (pS M way x b how v8 (D (.int cY)) v10 v11 (D (.int P)) (D (.int (goal:H))) aa aa aa aa aa aa aa aa) af)
theorem World.goal(h:World xs M T S A R at_ (g+1) σ){way x how cY P pid:H}{b:au}{v8 v10 v11:aJ V}(bH:cY < 3)(ko:T.rows[P]?=D (.ab [.int 10,.int pid])):Sq xs M T S A R at_ g m way x b how cY P v8 v10 v11 σ:=by
 by_cases q:cY=2
 ·obtain⟨e,w,s⟩:=h.ru (m:=m) (GA x P) ⟨fun p q=>(by cases q),fun s p q=>by
   have r:([V.int 15,.int x,.int P]:I V)=[.int 15,.int s,.int p]:=V.ab.inj q
   rw[<-fM (V.int.inj (ej (ej (ej r).2).2).1)]
   exact gh ko⟩
  have wy:=T.tw (gD x P)
  have K5:=w.inv.a8.big wy (by decide)
  exact⟨_,_,T.pos (gD x P),w,T.mL _,⟨15,_,wy,by decide,gu K5 (by decide),⟨15,_,wy,w.inv.a8.good _ _ _ wy (by decide) (by decide),.inr (.inr (.inr (.inr K5)))⟩,rfl⟩,fun s aY bl=>by
   have r:([V.int 15,.int x,.int P]:I V)=[.int 15,.int s,.int P]:=V.ab.inj (bD (wy.symm.trans bl))
   exact aY (fM (V.int.inj (ej (ej r).2).1)).symm,s.dC (by decide),fun go=>go (eqT (bs l3 q)) h.inv.tab.bT e⟩
 ·have hi:6+cY=6\/6+cY=7:=(Cr.mp (o0 (HJ (o0 bH) q))).elim (fun r=> .inl (by rw[r])) fun r=> .inr (by rw[r])
  have ⟨a,b⟩:=afk h.inv.a8 hi
  exact⟨σ,T,6+cY,h.less (eJ g),ak.bJ.refl _,a,fun s _=>b s P,bx.refl ..,fun go=>go (bf (dB q)) rfl⟩
inductive Sh(xs:I O)(M:O)(T:ak)(S:I (V×V))(A:bw)(R:be)(at_ g m cf cV s:H)(σ:St):Prop
 |mk (af:St) (aB:ak) (t i:H) (a:V) (iy:au) (k:O) (rest:I V) (w:World xs M aB S A R at_ g af) (l:T.bJ aB) (rA:gq aB t i (f6 cf cV)) (c5:aB.rows[t]?=D a) (aI:a= .ab (.int k::rest)) (am:k=8\/k=9)
  (ni:∀m σ,az PP (m+1) 67 [a] σ=D (.bool iy,σ)) (xd:iy=decide ((cf:O) < 2)) (Ak:cf < 2->a=(f6 cf cV).row)
  (go:∀ {M x b how v8 v9 v10 v11 fh dr d0 d1 ft d2 eA fI eB},cQ PP (az PP (m+3)) A7 (pS M cf x b how v8 v9 v10 v11 fh dr d0 d1 ft d2 eA (D (.int s)) fI eB) σ=D (.next,pS M cf x b how v8 v9 v10 v11 fh dr d0 d1 ft d2 eA (D (.int (t:H))) fI eB,af))
theorem World.decl(h:World xs M T S A R at_ (g+1) σ){cf cV s:H}(hw:cf < 8)(r:T.rows[s]?=D (f6 cf cV).row):Sh xs M T S A R at_ g m cf cV s σ:=by
 by_cases q:cf=2
 ·obtain⟨wg,qy,t,dy,ux,rN,iB,tx,WE,_,lT⟩:=World.declared (g:=g) (m:=m) h (b:=s)
  exact⟨wg,qy,t,s,_,aw,9,_,rN,iB,.ref tx WE (c9 (cp (cn ..) h.room.kF) (by decide)) (iB.row r),tx,rfl,.inr rfl,fun m σ=>Kq (by decide),by rw[q];rfl,fun z=>absurd (q▸z) (by decide),
   fun{M x b how v8 v9 v10 v11 fh dr d0 d1 ft d2 eA fI eB}=>g4 PP (az PP (m+3)) A7 (pS M cf x b how v8 v9 v10 v11 fh dr d0 d1 ft d2 eA (D (.int s)) fI eB) σ (eqT (bs l3 q)) ux⟩
 ·have em:(f6 cf cV).empty=decide ((cf:O) < 2):=(afw hw).trans (kQ.mpr ⟨fun z=>fv.mpr (HJ (o0 (fv.mp z)) q),fun z=>v3 z (by decide)⟩)
  exact⟨σ,T,s,s,(f6 cf cV).row,_,8,_,h.less (eJ g),ak.bJ.refl _,.obj r,r,rfl,.inl rfl,fun m σ=>Kp (BC (OZ cf cV)).2.1,em,fun _=>rfl,
   fun{M x b how v8 v9 v10 v11 fh dr d0 d1 ft d2 eA fI eB}=>g4 PP (az PP (m+3)) A7 (pS M cf x b how v8 v9 v10 v11 fh dr d0 d1 ft d2 eA (D (.int s)) fI eB) σ (bf (dB q))⟩
inductive Iw(xs:I O)(M:O)(T:ak)(S:I (V×V))(R:be)(g m f:H)(args:I V)(σ:St):Prop
 |mk (af:St) (aB:ak) (A':bw) (R':be) (at':H) (e:az PP m f args σ=D (.bool ae,af)) (w:World xs M aB S A' R' at' g af) (l:T.bJ aB) (bO:R'.df=R.df) (wt:R'.at_=R.at_)
theorem qv.lt{T:ak}{x:H}{b:au}(h:qv T x b):x < T.rows.length:=h.aW.elim (fun⟨_,e⟩=>gh e) gZ.lt
theorem World.nothing(h:World xs M T S A R at_ (g+800) σ):Iw xs M T S R g (m+65) 82 [.obj 1,.obj 2,.obj 12,.int M] σ:=by
 refine cps fun G bV=> ?_
 obtain⟨aC,cf,a6,aT,a9,s1⟩:=World.hp (g:=g+799) (m:=m+63) h (n:=8) (by decide)
 obtain⟨bn,eK,x,stays,zl,aX,bE,ci,Oa,s2⟩:=World.over (g:=g+779) (m:=m+57) a9
 obtain⟨ct,how,ag,bZ,cG,s3⟩:=World.hp (g:=g+778) (m:=m+63) bE (n:=4) (by decide)
 obtain⟨iq,y,lp,dP,eH,s4⟩:=World.hp (g:=g+777) (m:=m+63) cG (n:=5) (by decide)
 obtain⟨hT,cY,f1,eD,eY,s5⟩:=World.hp (g:=g+776) (m:=m+63) eH (n:=3) (by decide)
 obtain⟨iN,j4,k6,hL,gk,s6⟩:=World.hp (g:=g+775) (m:=m+63) eY (n:=3) (by decide)
 have su:gd PP (az PP (m+64)) (Oc++ [BE,K8]) (FO M cf x stays how (D (.int (Bl y))) (D (.int cY)) (D (.bool (decide ((j4:O)=2)))) aa) iN fun f bt af=>cQ PP (az PP (m+64)) (r9.take 11) [D (.obj 1),D (.obj 2),D (.obj 12),D (.int M),aa,aa,aa,aa,aa,aa,aa,aa,aa,aa,aa,aa,aa,aa,aa,aa,aa,aa] σ=D (f,bt,af):=g4 PP (az PP (m+64)) (r9.take 11) [D (.obj 1),D (.obj 2),D (.obj 12),D (.int M),aa,aa,aa,aa,aa,aa,aa,aa,aa,aa,aa,aa,aa,aa,aa,aa,aa,aa] σ aT aX bZ dP (ad4 lp) eD hL rfl
 obtain⟨nm,sG⟩:∃nm:O,(if decide ((j4:O)=2)then V.int 6 else V.int (-1))= .int nm:=by
  cases decide ((j4:O)=2)
  ·exact⟨_,rfl⟩
  ·exact⟨_,rfl⟩
 generalize decide ((j4:O)=2)=pj at *
 generalize Bl y=opt at *
 clear aT aX bZ dP eD hL a9 bE cG eH eY s1 s2 s3 s4 s5 s6
 obtain⟨qq,pg,over,iI,mF,NU,s7,Ld⟩:=World.ad8 (g:=g+765) (m:=m+59) gk (way:=cf) (b:=stays) (v8:=D (.int opt)) (v9:=D (.int cY)) (v10:=D (.bool pj)) ag Oa.lt
 obtain⟨CJ,CZ,P,pw,oS,u3,jA,Jn,_,s8⟩:=World.param (g:=g+764) (m:=m+62) iI (name:= .str ⟨#[80]⟩) (dflt:= .int (-1)) (b:=(over:O))
 obtain⟨t6,qz,goal,nU,MP,uK,Aa,s9,Le⟩:=World.goal (g:=g+763) (m:=m+63) oS (way:=cf) (x:=x) (b:=stays) (how:=how) (v8:=D (.int opt)) (v10:=D (.bool pj)) (v11:=D (.int (over:H))) f1 jA
 have sm:=Le (Ld su pw)
 clear su Ld Le pw
 obtain⟨yT,ro,OH,uv,mP,s10⟩:=World.hp (g:=g+762) (m:=m+63) nU (n:=3) (by decide)
 have uy:aG PP (az PP (m+64)) (.ab [.lit (.int 17),.sub (.sub (.attr (.aq 1) 0) (.aq 12)) (.lit (.int 1)),.aq 11,.ite (.aq 10) (.lit (.int 6)) (.neg (.lit (.int 1))),.aq 13,.aq 8,.call 75 [.aq 0,.lit (.int 3)]]) (pS M cf x stays how (D (.int opt)) (D (.int cY)) (D (.bool pj)) (D (.int (over:H))) (D (.int P)) (D (.int goal)) aa aa aa aa aa aa aa aa) t6=D (ez pg.bounds.length over nm goal opt ro,yT):=kJ (eO cE (eO (lg (lg (wz (bF rfl) nU.inv.tab.bT rfl) (bF rfl) (nU.row (MP.row jA))) cE rfl) (eO (bF rfl) (eO (sG▸oy (bF rfl) cE (Ba cE)) (oe (bF rfl) (bF rfl) (jm (jc (bF rfl) cE) uv))))))
 obtain⟨uw,tL,amq⟩:=World.ru (g:=g+761) (m:=m+63) mP BD.b (BD.fit qz)
 have AP:qz.bJ (qz.put j7):=qz.mL _
 generalize qz.pos j7=cV at *
 generalize gi qz j7 yT=H9 at *
 generalize qz.put j7=IC at *
 obtain⟨CG,y9,s,pq,rM,lI,vx,_,BE⟩:=World.put (g:=g+760) (m:=m+63) tL (BC (OZ cf cV))
 obtain⟨wg,qy,t,i,a,iy,k,rest,rN,iB,rA,c5,aI,am,ni,xd,Ak,ZC⟩:=World.decl (g:=g+759) (m:=m+61) rM a6 vx
 have Fn:qz.bJ qy:=(AP.trans lI).trans iB
 have MO:CZ.bJ qy:=MP.trans Fn
 have AS:pg.bJ qy:=u3.trans MO
 have N9:=(Oa.le mF).le AS
 have aiC:t≠x:=fun q=>by
  subst q
  rcases N9.aW with⟨p,e⟩|⟨Au,dp,_,_,bc,_,_,p,ao,dx⟩
  ·exact oE am (by decide) (sN (aI▸c5) e)
  ·obtain rfl:=rA.uniq bc
   exact absurd (dx.symm.trans (O0 cf cV p ao)) (by decide)
 have G8:=acR (nm:=nm) (opt:=opt) (ro:=ro) (at_:=zl+1+1+1+1+1) (xs:=xs) (M:=M) (S:=S) ⟨(NU.row).elim fun er h=>h.elim fun hk h=>⟨er,hk,AS.row h.1,h.2⟩,fun o hz aB le=>NU.ask o hz aB (AS.trans le)⟩ N9 rA c5 aI am ni xd Ak (MO.row jA) (uK.le Fn)
  (fun q=>by
   obtain⟨_,_,jq,_⟩:=uK
   exact Aa t aiC (jq.trans ((Fn.row jq).symm.trans q)))
 obtain⟨yU,ID,R7,SQ,W8,rO,xx,ahF,To⟩:=World.Lf (g:=g+259) (m:=m+1) rN c5 G8 (Nr cf how stays).1 (Nr cf how stays).2
 have DY:cQ PP (az PP (m+64)) (r9.drop 17) (pS M cf x stays how (D (.int opt)) (D (.int cY)) (D (.bool pj)) (D (.int (over:H))) (D (.int P)) (D (.int goal)) (D (ez pg.bounds.length over nm goal opt ro)) (D (.ab ((f6 cf cV).props.map pv))) (D (.ab [.int (cV:H)])) (D (.ab [(f6 cf cV).gO,(f6 cf cV).mz])) (D (.ab [(f6 cf cV).calls,(f6 cf cV).ctors])) (D (.int s)) aa aa) CG=D (.ret (.bool ae),_,yU):=lX (a:=A7) (b:=r9.drop 18) ZC (de (et (IU (gc (bF rfl) cE rfl) (gc (bF rfl) cE rfl) (gc (bF rfl) cE rfl))) (de (et (kX (oN rfl rfl rfl) (oy (wu (gc (bF rfl) cE rfl) (bF rfl)) rfl rfl) acQ)) (GJ (Gx (jm (eO (bF rfl) (eO (bF rfl) (oe (bF rfl) (bF rfl) (bF rfl)))) W8)))))
 have DX:cQ PP (az PP (m+64)) (r9.drop 11) (pS M cf x stays how (D (.int opt)) (D (.int cY)) (D (.bool pj)) (D (.int (over:H))) (D (.int P)) (D (.int goal)) aa aa aa aa aa aa aa aa) t6=D (.ret (.bool ae),_,yU):=de (et uy) (de (et (v:= .ab ((f6 cf cV).props.map pv)) (af:=yT) (by rw[<-afz];exact oN rfl rfl rfl)) (de (et (kJ (jT (sY (bF rfl) mP.inv.tab.bT sX (jT (v:=j7) rfl) uw)))) (de (et (kJ (jc (oN rfl rfl rfl) (oN rfl rfl rfl)))) (de (et (kJ (jc (oN rfl (bF rfl) rfl) (oN rfl (bF rfl) rfl))))
   (de (et (sY (bF rfl) tL.inv.tab.bT sX (jT (v:=(f6 cf cV).row) (kJ (eO cE (eO (bF rfl) (eO (lg (bF rfl) cE rfl) (eO (lg (bF rfl) cE rfl) (eO (lg (bF rfl) cE rfl) (eO (lg (bF rfl) cE rfl) (jT (v:= .int (f6 cf cV).flag) (by rw[<-afx];exact oN rfl cE cE)))))))))) pq)) DY)))))
 exact bV ⟨yU,ID,R7,SQ,_,k0 rfl rfl (lX (b:=r9.drop 11) sm DX) rfl,rO.less (cn ..),((ci.trans mF).trans AS).trans xx,ahF,To⟩
end
noncomputable def zr(cY ro:H):I O:=(fg cY 2 [1] []++fg ro 1 [4] [])++ [15]
theorem Vz{M:O}{cY ro goal:H}(bR:goal=0↔cY=2)(e9:cY=2->M≠4):jR (n9 M goal ro)=zr cY ro/\(n9 M goal ro).length < 40:=by
 unfold n9 zr
 rw[show(if goal=0/\M≠4 then [(1:O)]else [])=fg cY 2 [1] []from E1 ⟨fun q=>cW (bs l3 (bR.mp q.1)),fun q=>have f:=fM (gy q);⟨bR.mpr f,e9 f⟩⟩,show(if(ro:O)=1 then [(4:O)]else [])=fg ro 1 [4] []from E1 R1.symm]
 unfold fg
 generalize decide ((cY:O)=2)=a
 generalize decide ((ro:O)=1)=b
 cases a <;>cases b <;>exact⟨rfl,by decide⟩
theorem nA{p:H->Prop}(h0:p 0)(ag:p 1)(ah:p 2)(aN:p 3)(i:H)(hi:i < 4):p i:=rl (p:=fun i=>i < 4->p i) (fun _=>h0) (fun _=>ag) (fun _=>ah) (fun _=>aN) (fun h=>absurd h (by decide)) i (nY hi) hi
theorem M6{p:H->Prop}(h0:p 0)(ag:p 1)(ah:p 2)(aN:p 3)(b1:p 4)(ef:p 5)(c7:p 6)(i:H)(hi:i < 7):p i:=FD (p:=fun i=>i < 7->p i) (fun _=>h0) (fun _=>ag) (fun _=>ah) (fun _=>aN) (fun _=>b1) (fun _=>ef) (fun _=>c7) (fun h=>absurd h (by decide)) i (nY hi) hi
noncomputable def la(l:I H)(i:H):H:=(l[i]?).getD 0
theorem AW{T:ak}(a8:cP T){u:H}(h:aW T u=D 6):ie u=aw:=by
 rcases qi u 16 with l|l
 ·obtain⟨k,r,e,_,Bw,_⟩:=a8.aW l
  rw[Bw.mp (bD ((gg e).symm.trans h))];rfl
 ·exact hB l
theorem BB{T:ak}(a8:cP T){a:H}{k:O}{rest:I V}(e:T.rows[a]?=D (.ab (.int k::rest)))(h:k∉ [(1:O),2,6,7,8,9,10]):hu T a ae:=
 have no:∀ {y:O},y∈ [(1:O),2,6,7,8,9,10]->k≠y:=fun bo q=>h (q▸bo)
 have b:=a8.big e fun q=>q.elim (no (by decide)) fun q=>q.elim (no (by decide)) fun q=>q.elim (no (by decide)) (no (by decide))
 ⟨k,rest,e,no (by decide),no (by decide),⟨k,rest,e,a8.good _ _ _ e (no (by decide)) (no (by decide)),.inr (.inr (.inr (.inr b)))⟩,.e8 e (no (by decide)) (no (by decide)) (no (by decide)),fun q=>mT.mpr b ((by decide:∀x∈ [0,2,6,7],x < 16) a q)⟩
theorem Fg{T:ak}{u a b:H}{l:I H}(a8:cP T)(cd:T.rows[u]?=D (.ab [.int 6,.ab ((cA l).map .int)]))(aj:l=[a,b]\/l=[b,a]){cM f5:V}(c5:T.rows[a]?=D cM)(fC:T.rows[b]?=D f5):iA T u=D l/\(∀ {p:H->Prop},p a->p b->∀x∈l,p x)/\a∈l/\b∈l/\l.length=2:=by
 have jp:∀ {p:H->Prop},p a->p b->∀x∈l,p x:=fun aI ax=>by
  rcases aj with rfl|rfl
  ·exact cK.mpr ⟨aI,cK.mpr ⟨ax,nofun⟩⟩
  ·exact cK.mpr ⟨ax,cK.mpr ⟨aI,nofun⟩⟩
 refine⟨AI cd (jp (a8.lt c5) (a8.lt fC)),jp, ?_⟩
 rcases aj with rfl|rfl
 ·exact⟨.head _,.tail _ (.head _),rfl⟩
 ·exact⟨.tail _ (.head _),.head _,rfl⟩
inductive Ss(xs:I O)(M:O)(T:ak)(S:I (V×V))(A:bw)(R:be)(at_ g m s p:H)(σ:St):Prop
 |mk (af:St) (aB:ak) (t:H) (e:az PP (m+1) 3 [.obj 2,gD s p] σ=D (.int (t:H),af)) (w:World xs M aB S A R at_ g af) (l:T.bJ aB) (r:aB.rows[t]?=D (gD s p)) (s:bx fc σ af)
theorem aaW{T:ak}{s p:H}(ao:p < T.rows.length):y0 T (gD s p):=⟨fun p q=>(by cases q),fun bc fF q=>by
 have r:([V.int 15,.int s,.int p]:I V)=[.int 15,.int bc,.int fF]:=V.ab.inj q
 rw[<-fM (V.int.inj (ej (ej (ej r).2).2).1)]
 exact ao⟩
theorem aaX{s p bc fF:H}(h:gD s p=gD bc fF):s=bc/\p=fF:=
 have ⟨a,l⟩:=ej (ej (V.ab.inj h)).2
 ⟨fM (V.int.inj a),fM (V.int.inj (ej l).1)⟩
noncomputable def C0(xs:I O)(M:O)(T0:ak)(S:I (V×V))(at_:H)(t:H)(row:V)(lets:au)(cs:I O):Prop:=∀(m:H) (A:bw) (R:be) (g:H) (σ:St),World xs M T0 S A R at_ (g+200) σ->yY xs M T0 S (R.say cs) at_ g (m+61) 66 [.obj 12,.int t,row] (.bool lets) σ
inductive SV(xs:I O)(M:O)(T:ak)(S:I (V×V))(R:be)(at_ g m t:H)(row:V)(lets:au)(ws ds:I O)(σ:St):Prop
 |mk (bn cU:St) (A':bw) (R':be) (e:az PP (m+61) 66 [.obj 12,.int t,row] σ=D (.bool lets,bn)) (aX:az PP (m+61) 80 [.obj 12,.int (R.ba.length:H),.lst (ws.map .int)] bn=D (.bool ae,bn++cU)) (w:World xs M T S A' R' at_ g (bn++cU)) (k:el (R.say ds) R')
noncomputable def wE(M:O)(t:H)(dS dT d3 v8 v9 v10 v11 fh dr d0 d1 ft d2 eA gU fI eB fL:aJ V):Loc:=[D (.obj 1),D (.obj 2),D (.obj 12),D (.int M),D (.int t),dS,dT,d3,v8,v9,v10,v11,fh,dr,d0,d1,ft,d2,eA,gU,fI,eB,fL]
inductive Sb(xs:I O)(M:O)(T:ak)(S:I (V×V))(R:be)(at_ g m t:H)(row:V)(lets:au)(ws:I O)(σ:St):Prop
 |mk (af:St) (A':bw) (R':be) (w:World xs M T S A' R' at_ g af) (bO:R'.df=R.df) (wt:R'.at_=R.at_)
  (e:∀ {dS dT d3 v8 v9 v10 v11 fh dr d0 d1 ft d2},cQ PP (az PP (m+61)) (qG.drop 18) (wE M t dS dT d3 v8 v9 v10 v11 fh dr d0 d1 ft d2 (D (.bool lets)) (D (.lst (ws.map .int))) (D (.int (R.ba.length:H))) (D row) aa) σ=D (.ret (.bool ae),wE M t dS dT d3 v8 v9 v10 v11 fh dr d0 d1 ft d2 (D (.bool lets)) (D (.lst (ws.map .int))) (D (.int (R.ba.length:H))) (D row) (D (.int 1)),af))
section
variable {xs:I O}{M:O}{T aB:ak}{S:I (V×V)}{A:bw}{R:be}{at_ g m n:H}{σ aC:St}
theorem World.Bs(h:World xs M T S A R at_ (g+1) σ){s p:H}(ao:p < T.rows.length):Ss xs M T S A R at_ g m s p σ:=
 have ⟨e,w,i0⟩:=h.ru (m:=m) (GA s p) (aaW ao)
 ⟨_,_,_,e,w,T.mL _,T.tw _,i0.dC (by decide)⟩
theorem World.OI{ma:bw}{cv:be}(w:World xs M T S ma cv at_ (g+200) σ){t:H}{row:V}{lets:au}{cs ds ws:I O}(aP:C0 xs M T S at_ t row lets cs)(k:el (R.say ds) cv)(aE:jR (ds++cs)=ws)(aj:(ds++cs).length < 100):SV xs M T S R at_ g m t row lets ws (ds++cs) σ:=by
 obtain⟨bn,ht,b2,aX,bE,cZ⟩:=aP m ma cv g σ w
 have fY:=k.more cZ
 obtain⟨cU,bZ⟩:=bE.told (m:=m+60) (pre:=R.ba) (by rw[fY.ba,Ha (R:=R) fY.df fY.at_];rfl) aE aj
 exact⟨bn,cU,ht,b2,aX,bZ,bE.more cU,fY⟩
theorem World.Vw(h:World xs M T S A R at_ (g+500) σ){t:H}{row:V}{lets:au}{cs ws:I O}(aP:C0 xs M T S at_ t row lets (if lets then cs else []))(aE:lets=ae->jR cs=ws)(aj:cs.length < 40):Sb xs M T S R at_ g m t row lets ws σ:=by
 have eT:jR (if lets then cs else [])=(if lets then ws else []):=by cases lets;rfl;exact aE rfl
 have sF:(if lets=ae then cs else []).length < 40:=by cases lets;exact c9 (kL _) aj;exact aj
 generalize (if lets=ae then cs else [])=ds at *
 have ci:(ds++ds).length < 100:=by rw[fw];exact gm (akf sF sF) (by decide)
 obtain⟨bn,dq,ht,b2,aX,f2,bE,cZ⟩:=World.OI (g:=g+300) (m:=m) (ds:=[]) h aP (el.refl R).nil eT (fN sF (by decide))
 obtain⟨ct,e2,i5,gA,bZ,kp,cG,fY⟩:=World.OI (g:=g+100) (m:=m) (ds:=ds) bE aP cZ ((JT ds).trans eT) ci
 refine⟨_,i5,gA,cG.less (cn ..),fY.df,fY.at_,fun{dS dT d3 v8 v9 v10 v11 fh dr d0 d1 ft d2}=> ?_⟩
 have go:=(g4 PP (az PP (m+61)) (qG.drop 18) (wE M t dS dT d3 v8 v9 v10 v11 fh dr d0 d1 ft d2 (D (.bool lets)) (D (.lst (ws.map .int))) (D (.int (R.ba.length:H))) (D row) aa) σ (show ii (.int 2)=D [.int 0,.int 1]from rfl)).2 rfl aX tb
 cases lets with
 |true=>exact go f2 rfl bZ tb kp rfl
 |false=>exact go f2 rfl bZ tb kp rfl
end
noncomputable def qH(M:O)(cY:H):au:=decide ((cY:O) < 2)||((decide ((cY:O)=2) && !decide (M=4))||(decide ((cY:O)=4) && decide (M=2)))
noncomputable def pl(M:O)(how cY:H)(opt:O)(b:au):au:=decide ((how:O) < 2) && (qH M cY && (!decide (opt=1) && !b))
noncomputable def zq:H->O
 |1=>2
 |2=>1
 |_=>0
theorem Vt{σ:St}{y:H}(h:y < 3):ee σ (.ab [.int 0,.int 2,.int 1]) (.int y)=D (.int (zq y)):=nA (p:=fun y=>y < 3->ee σ (.ab [.int 0,.int 2,.int 1]) (.int y)=D (.int (zq y))) (fun _=>rfl) (fun _=>rfl) (fun _=>rfl) (fun h=>absurd h (by decide)) y (nY h) h
section
variable {xs:I O}{M:O}{T aB:ak}{S:I (V×V)}{A:bw}{R:be}{at_ g m n:H}{σ aC:St}
section
variable {C:Cl}{J:Loc}{a b:E}{t s:au}
theorem N5(aI:aG PP C a J σ=D (.bool t,σ))(ax:aG PP C b J σ=D (.bool s,σ)):aG PP C (.or [a,b]) J σ=D (.bool (t||s),σ):=by
 cases t
 ·exact Gd aI rfl (N6 ax)
 ·exact Ge aI rfl
theorem ad5{d:E}{p:au}(aI:aG PP C a J σ=D (.bool t,σ))(ax:aG PP C b J σ=D (.bool s,σ))(hd:aG PP C d J σ=D (.bool p,σ)):aG PP C (.or [a,b,d]) J σ=D (.bool (t||(s||p)),σ):=by
 cases t
 ·exact Gd aI rfl (N5 (t:=s) (s:=p) ax hd)
 ·exact Ge aI rfl
theorem IV{d f:E}{p q:au}(aI:aG PP C a J σ=D (.bool t,σ))(ax:aG PP C b J σ=D (.bool s,σ))(hd:aG PP C d J σ=D (.bool p,σ))(bH:aG PP C f J σ=D (.bool q,σ)):aG PP C (.and [a,b,d,f]) J σ=D (.bool (t && (s && (p && q))),σ):=by
 cases t
 ·exact zh aI rfl
 ·exact zi aI rfl (IU (t:=s) (s:=p) (p:=q) ax hd bH)
end
theorem Vu{cY ro:H}{v:V}(h:hM .add (fg cY 2 (.lst [.int 1]) (.lst [])) (fg ro 1 (.lst [.int 4]) (.lst []))=D v):hM .add v (.lst [.int 15])=D (.lst ((zr cY ro).map .int)):=by
 unfold zr
 unfold fg at *
 generalize decide ((cY:O)=2)=a at *
 generalize decide ((ro:O)=1)=b at *
 cases a <;>cases b <;>exact(bD h)▸rfl
theorem Jo{cY ro:H}:hM .add (fg cY 2 (.lst [.int 1]) (.lst [])) (fg ro 1 (.lst [.int 4]) (.lst []))=D (.lst ((fg cY 2 [1] []++fg ro 1 [4] []:I O).map .int)):=by
 unfold fg
 generalize decide ((cY:O)=2)=a
 generalize decide ((ro:O)=1)=b
 cases a <;>cases b <;>rfl
theorem Vx(a8:cP T){cO u k fp z t w p how:H}{l:I H}(bu:how < 4)(pZ:T.rows[cO]?=D (.ab [.int 14,.int t]))(afq:T.rows[z]?=D (eX lU))(hQ:T.rows[u]?=D (.ab [.int 6,.ab ((cA l).map .int)]))(aj:l=[cO,z]\/l=[z,cO])(Gy:T.rows[k]?=D (.ab [.int 10,.int p]))(Gz:T.rows[fp]?=D (.ab [.int 14,.int w]))(hw:t≠w):
  ∃c,c<=50/\cy T M S 6 cO (la [cO,u,k,fp] how)=D (decide ((how:O) < 2),c):=by
 have er:=gg pZ
 have lo:=hB (a8.big pZ (by decide))
 obtain⟨lG,_,mem,_,_⟩:=Fg a8 hQ aj pZ afq
 have no:∀ {eF:H} {k:O},aW T eF=D k->cO≠eF->x3 14 k=ae->ie eF=aw->∃c,c<=50/\cy T M S 6 cO eF=D (aw,c):=fun q ne r lt=>⟨1,by decide,Dd (n:=5) er q ne lo (.inl lt) r⟩
 exact nA (p:=fun how=>∃c,c<=50/\cy T M S 6 cO (la [cO,u,k,fp] how)=D (decide ((how:O) < 2),c)) ⟨0,by decide,C8⟩
  ⟨1,by decide,IX er lG mem (pN er (mD lG) (by decide)) lo (AW a8 (mD lG)) (by decide) (by decide)⟩
  (no (gg Gy) (pN er (gg Gy) (by decide)) (by decide) (hB (a8.big Gy (by decide))))
  (no (gg Gz) (fun q=>hw (by
   have r:([V.int 14,.int t]:I V)=[.int 14,.int w]:=V.ab.inj (bD (pZ.symm.trans (q▸Gz)))
   exact fM (V.int.inj (ej (ej r).2).1))) (by decide) (hB (a8.big Gz (by decide)))) how bu
noncomputable def mX(T:ak)(M:O)(S:I (V×V))(fQ s f:H):Prop:=(if s=0 then qH M f=decide (M≠4)else∃c,c<=50/\cy T M S 6 s fQ=D (qH M f,c))/\(s=0↔f=2)
theorem mX.e8{fQ s f:H}(h:s≠0)(ah:f≠2)(q:∃c,c<=50/\cy T M S 6 s fQ=D (qH M f,c)):mX T M S fQ s f:=⟨by rw[bz h];exact q,⟨fun e=>absurd e h,fun e=>absurd e ah⟩⟩
theorem Vy(a8:cP T){fQ eu q8 sJ t w P k cY:H}{l:I H}(bH:cY < 7)(nK:T.rows[fQ]?=D (gD t P))(hQ:T.rows[eu]?=D (.ab [.int 6,.ab ((cA l).map .int)]))(aj:l=[fQ,5]\/l=[5,fQ])(kF:T.rows[q8]?=D (gD w P))(ih:T.rows[sJ]?=D (gD t k))(hw:t≠w)(am:P≠k):mX T M S fQ (la [fQ,2,0,7,eu,q8,sJ] cY) cY:=by
 have u1:=gg nK
 have A0:=a8.big nK (by decide)
 have lm:=hB A0
 obtain⟨lG,jp,mem,acz,len⟩:=Fg a8 hQ aj nK (vi a8)
 have j2:=AW a8 (mD lG)
 have no:∀ {n s:H} {a:O},aW T s=D a->s≠fQ->x3 a 15=ae->ie s=aw->cy T M S (n+1) s fQ=D (aw,1):=fun q ne r ls=>Dd q u1 ne ls (.inl lm) r
 have tp:∀ {i s p f:H},qH M f=aw->f≠2->T.rows[i]?=D (gD s p)->(t=s->P=p->False)->mX T M S fQ i f:=fun ax ah r ne=>
  have b:=a8.big r (by decide)
  .e8 (gu b (by decide)) ah ⟨1,by decide,ax▸no (n:=5) (gg r) (fun q=>by
   subst q
   have ⟨x,y⟩:=aaX (bD (nK.symm.trans r))
   exact ne x y) (by decide) (hB b)⟩
 have xH:5≠fQ:=(gu A0 (by decide)).symm
 obtain⟨c,aE,e⟩:=TK (M:=M) (S:=S) (n:=5) (C:=1) (g:=fun p=>decide (p=fQ)) lG u1 (by decide) (pN (mD lG) u1 (by decide)) j2 (.inl lm)
  (jp (p:=fun p=>∃c,c<=1/\cy T M S 5 p fQ=D (decide (p=fQ),c)) ⟨0,by decide,by rw[cW rfl];exact C8⟩ ⟨1,by decide,by rw[ek xH];exact no (n:=4) (a8.oA (by decide)) xH (by decide) rfl⟩)
 have py:(if M=2 then l.any (fun p=>decide (p=fQ))else l.all fun p=>decide (p=fQ))=qH M 4:=by
  by_cases q:M=2
  ·rw[a7 q];exact(mR.mpr ⟨fQ,mem,cW rfl⟩).trans (cW q).symm
  ·rw[bz q];exact(List.all_eq_false.mpr ⟨5,acz,by rw[ek xH];decide⟩).trans (ek q).symm
 have ah:mX T M S fQ 0 2:=⟨(a7 rfl).mpr ((Ht _).trans R3.symm),⟨fun _=>rfl,fun _=>rfl⟩⟩
 exact M6 (p:=fun cY=>mX T M S fQ (la [fQ,2,0,7,eu,q8,sJ] cY) cY) (mX.e8 (gu A0 (by decide)) (by decide) ⟨0,by decide,C8⟩) (mX.e8 (s:=2) (by decide) (by decide) ⟨0,by decide,Dc a8 u1 (by decide)⟩) ah
  (mX.e8 (s:=7) (by decide) (by decide) ⟨1,by decide,no (n:=5) (a8.oA (i:=7) (by decide)) (gu A0 (by decide)).symm (by decide) rfl⟩)
  (mX.e8 (nz j2).1 (by decide) ⟨c,cp aE (by rw[len];decide),e.trans (bs (fun b=>D (b,c)) py)⟩)
  (tp rfl (by decide) kF fun x _=>hw x) (tp rfl (by decide) ih fun _ y=>am y) cY bH
theorem VA{goal:H}{ro:O}:(n9 M goal ro).length < 40:=by
 unfold n9;split <;>split <;>decide
theorem Vs(h:qH M 2=ae):M≠4:=fun q=>by subst q;exact absurd h (by decide)
theorem Vv{t pid cO keys goal P fQ how cY:H}{nm opt ro:O}{b:au}(ag:b=ae->0<=nm)(ah:b=aw->nm < 0)(pZ:T.rows[cO]?=D (.ab [.int 14,.int t]))(tz:T.rows[P]?=D (.ab [.int 10,.int pid]))(nK:T.rows[fQ]?=D (gD t P))
  (a1:∃c,c<=50/\cy T M S 6 cO keys=D (decide ((how:O) < 2),c)) (ga:mX T M S fQ goal cY):C0 xs M T S at_ t (ez pid keys nm goal opt ro) (pl M how cY opt b) (if pl M how cY opt b then n9 M goal ro else []):=by
 intro m A R g σ w
 have no:pl M how cY opt b=aw->0<=nm\/opt=1->yY xs M T S (R.say (if pl M how cY opt b then n9 M goal ro else [])) at_ g (m+61) 66 [.obj 12,.int t,ez pid keys nm goal opt ro] (.bool (pl M how cY opt b)) σ:=fun e r=>by
  rw[e];exact⟨σ,A,R,w.acJ (m:=m+60) r,w.less (cn ..),(el.refl R).nil⟩
 cases b with
 |true=>exact no (by unfold pl;rw[yB,l2,l2,l2]) (.inl (ag rfl))
 |false=>
  by_cases q:opt=1
  ·exact no (by unfold pl;rw[cW q,yB,ajG,l2,l2]) (.inr q)
  ·rw[show pl M how cY opt aw=(decide ((how:O) < 2) && qH M cY)from by unfold pl;rw[ek q,ajJ,ajE,v0]]
   obtain⟨af,A',R',cH,w',k'⟩:=World.acI (g:=g+90) (m:=m) w (pid:=pid) (over:=keys) (nm:=nm) (opt:=opt) (ro:=ro) (ah rfl) q pZ tz nK a1 ga.1
   exact⟨af,A',R',cH,w'.less (cn ..),k'⟩
theorem World.back(h:World xs M T S A R at_ (g+800) σ):Iw xs M T S R g (m+62) 85 [.obj 1,.obj 2,.obj 12,.int M] σ:=by
 refine cps fun G bV=> ?_
 obtain⟨aC,du,t,aT,a9,cL,dR,d7,_,_⟩:=World.param (g:=g+799) (m:=m+59) h (name:= .str ⟨#[84]⟩) (dflt:= .int (-1)) (b:= -1)
 obtain⟨bn,eK,w,aX,bE,ci,dq,dM,_,_⟩:=World.param (g:=g+798) (m:=m+59) a9 (name:= .str ⟨#[87]⟩) (dflt:= .int (-1)) (b:= -1)
 obtain⟨ct,iU,cO,bZ,cG,fJ,e2,_,_⟩:=World.put (g:=g+797) (m:=m+60) bE (GB t)
 obtain⟨iq,jN,k,dP,eH,hN,gw,kl,_,_⟩:=World.param (g:=g+796) (m:=m+59) cG (name:= .str ⟨#[75]⟩) (dflt:= .int (-1)) (b:=(cO:O))
 obtain⟨hT,how,ag,eD,eY,_⟩:=World.hp (g:=g+795) (m:=m+60) eH (n:=4) (by decide)
 obtain⟨iN,cY,f1,hL,gk,_⟩:=World.hp (g:=g+794) (m:=m+60) eY (n:=7) (by decide)
 obtain⟨qq,y,lp,qR,iI,_⟩:=World.hp (g:=g+793) (m:=m+60) gk (n:=3) (by decide)
 obtain⟨CJ,ro,OH,pw,oS,_⟩:=World.hp (g:=g+792) (m:=m+60) iI (n:=3) (by decide)
 obtain⟨t6,j4,k6,zU,nU,_⟩:=World.hp (g:=g+791) (m:=m+60) oS (n:=6) (by decide)
 have ik:t≠w:=hI (gm (gh dR) (a9.fresh ci dq))
 have su:gd PP (az PP (m+61)) ((qG.take 13).drop 9) (wE M t (D (.int w)) (D (.int cO)) (D (.int k)) (D (.int how)) (D (.int cY)) (D (.int (zq y))) (D (.int ro)) (D (.bool (decide ((j4:O)=5)))) aa aa aa aa aa aa aa aa aa aa) t6 fun f bt af=>cQ PP (az PP (m+61)) (qG.take 13) [D (.obj 1),D (.obj 2),D (.obj 12),D (.int M),aa,aa,aa,aa,aa,aa,aa,aa,aa,aa,aa,aa,aa,aa,aa,aa,aa,aa,aa] σ=D (f,bt,af):=g4 PP (az PP (m+61)) (qG.take 13) [D (.obj 1),D (.obj 2),D (.obj 12),D (.int M),aa,aa,aa,aa,aa,aa,aa,aa,aa,aa,aa,aa,aa,aa,aa,aa,aa,aa,aa] σ aT aX bE.inv.tab.bT bZ dP eD hL qR (Vt lp) pw zU rfl
 obtain⟨nm,sG,EN,uR⟩:∃nm:O,(if decide ((j4:O)=5)then V.int 6 else V.int (-1))= .int nm/\(decide ((j4:O)=5)=ae->0<=nm)/\(decide ((j4:O)=5)=aw->nm < 0):=by
  cases decide ((j4:O)=5)
  ·exact⟨-1,rfl,nofun,fun _=>by decide⟩
  ·exact⟨6,rfl,fun _=>by decide,nofun⟩
 generalize decide ((j4:O)=5)=wB at *
 generalize zq y=opt at *
 have Sv:=(cL.trans ci).trans fJ
 clear aT aX bZ dP eD hL qR pw zU a9 bE eH eY gk iI oS cL ci dR d7 dq dM h
 obtain⟨yT,alL,z,uv,mP,ML,Gq,_,_⟩:=World.put (g:=g+790) (m:=m+60) nU (ry lU)
 have N8:=ML.row (hN.row e2)
 obtain⟨H9,u,IC,uw,tL,AP,_,_,_,_,pr⟩:=World.yr (g:=g+789) (m:=m+57) mP (BB mP.inv.a8 N8 (by decide)) (BB mP.inv.a8 Gq (by decide)) (fun _=>rfl)
 obtain⟨l,hQ,aj⟩:=pr (pN (gg N8) (gg Gq) (by decide))
 obtain⟨CG,y9,fp,pq,rM,lI,vx,_,_⟩:=World.put (g:=g+788) (m:=m+60) tL (GB w)
 have su:=su nU.inv.tab.bT uv uw tL.inv.tab.bT pq (nA (p:=fun how=>ee CG (.ab [.int cO,.int u,.int k,.int fp]) (.int how)=D (.int (la [cO,u,k,fp] how))) rfl rfl rfl rfl how ag)
 clear uv uw pq mP
 obtain⟨wg,qy,P,ux,rN,iB,tx,zm,_,_⟩:=World.param (g:=g+787) (m:=m+59) rM (name:= .str ⟨#[80]⟩) (dflt:= .int (-1)) (b:=(la [cO,u,k,fp] how:O))
 obtain⟨yU,ID,fQ,uy,rO,xx,Gr,_⟩:=World.Bs (g:=g+786) (m:=m+60) rN (s:=t) (p:=P) (gh tx)
 obtain⟨CH,eu,IE,zR,B8,AQ,_,_,_,_,pr⟩:=World.yr (g:=g+785) (m:=m+57) rO (BB rO.inv.a8 Gr (by decide)) (D9 rO.inv.a8) (fun _=>rfl)
 obtain⟨eP,aiJ,EM⟩:=pr (gu (rO.inv.a8.big Gr (by decide)) (by decide))
 have MM:jN.bJ y9:=(ML.trans AP).trans lI
 have MN:jN.bJ IE:=((MM.trans iB).trans xx).trans AQ
 obtain⟨ana,alM,q8,zS,Qr,AR,aeX,_⟩:=World.Bs (g:=g+784) (m:=m+60) B8 (s:=w) (p:=P) (gh ((xx.trans AQ).row tx))
 obtain⟨yV,kU,sJ,zT,oR,xy,aeY,_⟩:=World.Bs (g:=g+783) (m:=m+60) Qr (s:=t) (p:=k) (gh ((MN.trans AR).row gw))
 have sm:=su ux rN.inv.tab.bT uy zR B8.inv.tab.bT zS Qr.inv.tab.bT zT (M6 (p:=fun cY=>ee yV (.ab [.int fQ,.int 2,.int 0,.int 7,.int eu,.int q8,.int sJ]) (.int cY)=D (.int (la [fQ,2,0,7,eu,q8,sJ] cY))) rfl rfl rfl rfl rfl rfl rfl cY f1)
 clear su ux uy zR zS zT
 have y2:IE.bJ kU:=AR.trans xy
 have Ip:qy.bJ kU:=(xx.trans AQ).trans y2
 have Io:y9.bJ kU:=iB.trans Ip
 have Im:IC.bJ kU:=lI.trans Io
 have qt:jN.bJ kU:=MN.trans y2
 have pZ:=qt.row (hN.row e2)
 have tz:=Ip.row tx
 have nK:=(AQ.trans y2).row Gr
 have a8:=oR.inv.a8
 have a1:=Vx (M:=M) (S:=S) a8 ag pZ ((AP.trans Im).row Gq) (Im.row hQ) aj (qt.row gw) (Io.row vx) ik
 have ga:=Vy (M:=M) (S:=S) a8 f1 nK (y2.row aiJ) EM (xy.row aeX) aeY ik fun q=>mT.mpr (rM.fresh iB tx) (q▸gm (gh gw) MM.len)
 generalize la [fQ,2,0,7,eu,q8,sJ] cY=goal at *
 generalize la [cO,u,k,fp] how=keys at *
 have aia:=Vv (xs:=xs) (at_:=at_+1+1+1+1+1) (opt:=opt) (ro:=ro) EN uR pZ tz nK a1 ga
 obtain⟨R6,R8,SR,rP,BW,Tp,DW⟩:=World.Vw (g:=g+283) (m:=m) oR aia (fun q=>(Vz ga.2 fun f2=>Vs (f2▸(ei.mp (ei.mp q).2).1)).1) VA
 have DX:cQ PP (az PP (m+61)) (qG.drop 13) (wE M t (D (.int w)) (D (.int cO)) (D (.int k)) (D (.int how)) (D (.int cY)) (D (.int opt)) (D (.int ro)) (D (.bool wB)) (D (.int keys)) (D (.int P)) (D (.int fQ)) (D (.int goal)) aa aa aa aa aa aa) yV=D (.ret (.bool ae),_,R6):=de (et (ad5 (gc (bF rfl) cE rfl) (wu (D0 rfl) (gc (bF rfl) cE rfl)) (wu (D0 rfl) (gc (bF rfl) cE rfl)))) (de (et (IV (gc (bF rfl) cE rfl) (bF rfl) (gc (bF rfl) cE rfl) (FY (bF rfl) rfl)))
   (de (et (kX (kX (oN rfl rfl rfl) (oN rfl rfl rfl) Jo) rfl (Vu Jo))) (de (et (ab9 (wz (wz (bF rfl) oR.dJ rfl) oR.inv.rel.da rfl) (mH oR.vh.1 oR.vh.2)))
    (de (et (kJ (eO cE (eO (lg (lg (wz (bF rfl) oR.inv.tab.bT rfl) (bF rfl) (oR.row tz)) cE rfl) (eO (bF rfl) (eO (sG▸oy (bF rfl) cE (Ba cE)) (oe (bF rfl) (bF rfl) (bF rfl)))))))) DW))))
 exact bV ⟨R6,kU,R8,SR,_,k0 rfl rfl (lX (b:=qG.drop 13) sm DX) rfl,rP.less (cn ..),Sv.trans (hN.trans qt),BW,Tp⟩
end
noncomputable def bw.all(A:bw):I H:=[A.inst,A.bY,A.bk,A.aO,A.da,A.ba]
inductive IG(A:bw)(R:be)(g:H)(σ:St)(ds:I H):Prop
 |no (q:R.twin= .none)
 |yes (bL:bw) (dh:be) (q:R.twin= .obj bL.inst) (t:ly σ A bL dh) (h0:0<=dh.dn) (ag:dh.dn+g<=19000) (ne:∀i∈bL.all,i∉ds)
structure Off(T:ak)(A:bw)(R:be)(g:H)(σ:St)(ds:I H):Prop where
 low:∀d∈ds,20 < d/\d < σ.length/\d≠A.aO
 dec:∀(j k:H) (b:O),T.decls[j]?=D (k,b)->k∉ds
 ik:IG A R g σ ds
section
variable {xs:I O}{M:O}{T aB:ak}{S:I (V×V)}{A:bw}{R:be}{at_ g m n:H}{σ af aC:St}
theorem cq.FE{A:bw}{R:be}{σ:St}(r:cq σ A R):∀i∈A.all,i < σ.length:=cK.mpr ⟨iC r.inst,cK.mpr ⟨iC r.bY,cK.mpr ⟨iC r.bk,cK.mpr ⟨iC r.aO,cK.mpr ⟨iC r.da,cK.mpr ⟨iC r.ba,nofun⟩⟩⟩⟩⟩⟩
theorem Off.VY(h:World xs M T S A R at_ g σ)(c e:Cell):Off T A R g ((σ++ [c])++ [e]) [σ.length,(σ++ [c]).length]:=by
 rw[hR,jg]
 show Off T A R g (σ++ [c,e]) [σ.length,σ.length+1]
 have ge:∀ {i},i < σ.length->i∉ [σ.length,σ.length+1]:=fun hi=>Bb (hI hi) (hI (nY hi))
 refine⟨cK.mpr ⟨⟨h.ny, ?_,fun q=>ge (h.inv.rel.FE A.aO (.tail _ (.tail _ (.tail _ (.head _))))) (q▸ .head _)⟩,cK.mpr ⟨⟨nY h.ny, ?_,fun q=>ge (h.inv.rel.FE A.aO (.tail _ (.tail _ (.tail _ (.head _))))) (q▸ .tail _ (.head _))⟩,nofun⟩⟩,fun j k b e=> ?_, ?_⟩
 ·rw[fw];exact akl (by show 0 < 2;decide)
 ·rw[fw];exact rV _
 ·obtain⟨fs,_,_,a6,_⟩:=h.inv.tab.dec j k b e
  exact ge (iC a6)
 ·cases h.ik with
  |no q=>exact .no q
  |yes bL dh a6 bl cF eV=>exact .yes bL dh a6 (bl.same (S:=[]) bx.append (fun _=>nofun) (.inl rfl)) cF eV fun i hi=>ge (bl.rel.FE i hi)
theorem Off.step{ds:I H}{c:H}(h:Off T A R (g+c) σ ds)(s:bx fc σ af)(hd:aB.decls=T.decls):Off aB A R g af ds:=by
 refine⟨fun d hd=>have ⟨a,b,c⟩:=h.low d hd;⟨a,gm b s.1,c⟩,by rw[hd];exact h.dec, ?_⟩
 cases h.ik with
 |no q=>exact .no q
 |yes bL dh a6 bl cF eV nJ=>exact .yes bL dh a6 (bl.same s (fun i hi=> .inl ((by decide:∀i∈fc,i<=20) i hi)) (.inl rfl)) cF (wY eV) nJ
theorem ly.vD{ds:I H}{d:H}{c:Cell}{bL:bw}{dh:be}(h:ly σ A bL dh)(hd:d∈ds)(ne:∀i∈bL.all,i∉ds):ly (σ.set d c) A bL dh:=⟨h.rel.same (S:=[d]) (bx.set (.head _)) (fun i hi q=>ne i hi (dt.mp q▸hd)),h.tidy,h.mode,h.quiet,h.idle,h.deep,h.none,h.z3,h.size,h.low,h.apart⟩
theorem World.vD{ds:I H}{d:H}(h:World xs M T S A R at_ g σ)(o:Off T A R g σ ds)(hd:d∈ds)(c:Cell):World xs M T S A R at_ g (σ.set d c)/\Off T A R g (σ.set d c) ds:=by
 obtain⟨a,b,jn⟩:=o.low d hd
 have s:bx [d] σ (σ.set d c):=bx.set (.head _)
 have i:=h.inv
 have low:∀j,decide (j<=20)=ae->j∉ [d]:=fun j cg q=>o1.mpr a (dt.mp q▸gy cg)
 have bg:cq (σ.set d c) A R:=i.rel.same s fun j cg q=>by
  obtain⟨hn,gR,kE,oH,nH⟩:=h.inst
  have og:∀j∈A.all,decide (j<=20)=ae\/j=A.aO:=by
   unfold bw.all
   rw[hn,gR,kE,oH,nH]
   exact cK.mpr ⟨.inl rfl,cK.mpr ⟨.inl rfl,cK.mpr ⟨.inl rfl,cK.mpr ⟨.inr rfl,cK.mpr ⟨.inl rfl,cK.mpr ⟨.inl rfl,nofun⟩⟩⟩⟩⟩⟩
  exact(og j cg).elim (fun l=>low j l q) fun e=>jn ((dt.mp q).symm.trans e)
 have w:wq A R g (σ.set d c)/\IG A R g (σ.set d c) ds:=by
  cases o.ik with
  |no q=>exact⟨.no q,.no q⟩
  |yes bL dh a6 bl cF eV nJ=>exact⟨.yes bL dh a6 (bl.vD hd nJ) cF eV,.yes bL dh a6 (bl.vD hd nJ) cF eV nJ⟩
 exact⟨⟨⟨i.a8,i.tab.off a (fun j k b e q=>o.dec j k b e (q▸hd)),s.get i.host (low 11 rfl),⟨s.get i.rules.1 (low 13 rfl),s.get i.rules.2 (low 20 rfl)⟩,bg,i.tidy,i.mode,i.bk,i.lW,i.aO,i.da,i.size,i.e8⟩,h.idle,h.deep,h.place,h.ll,⟨s.get h.d.eT (low 0 rfl),s.get h.d.eL (low 1 rfl)⟩,h.len,w.1,h.tell,h.mode,h.p1,h.room⟩,
  ⟨fun jS gK=>have ⟨x,y,z⟩:=o.low jS gK;⟨x,by rw[tR];exact y,z⟩,o.dec,w.2⟩⟩
end
structure cw where
 name:aK
 mask:H
 closed:au
 hidden:au
noncomputable def cw.b5(e:cw):V×V:=(.str e.name,.ab [.int e.mask,.bool e.closed,.bool e.hidden])
noncomputable def Ie(e:cw)(p:fy):Prop:=p.name=e.name/\(p.fl &&& 24=0↔e.hidden=aw)/\(p.fl &&& 2≠0↔e.closed=ae)
inductive hW:I cw->I fy->Prop
 |nil:hW [] []
 |cons {e:cw} {p:fy} {es:I cw} {ps:I fy}:Ie e p->hW es ps->hW (e::es) (p::ps)
theorem hW.snoc{es:I cw}{ps:I fy}{e:cw}{p:fy}(k:Ie e p)(h:hW es ps):hW (es++ [e]) (ps++ [p]):=by
 induction h with
 |nil=>exact .cons k .nil
 |cons a _ bh=>exact .cons a bh
theorem hW.len{es:I cw}{ps:I fy}(h:hW es ps):ps.length=es.length:=by
 induction h with
 |nil=>rfl
 |cons _ _ bh=>exact bs (· +1) bh
theorem AN:∀(es:I cw) (n:aK),cx (es.map cw.b5) (.str n)=(es.find? fun e=>decide (e.name=n)).map fun e=> .ab [.int e.mask,.bool e.closed,.bool e.hidden]
 |[],n=>rfl
 |e::es,n=>by
  show(if V.str e.name=V.str n then D _ else cx (es.map cw.b5) (.str n))=_
  by_cases q:e.name=n
  ·rw[a7 (bs V.str q),ajU (p:=fun e:cw=>decide (e.name=n)) (cW q)];rfl
  ·rw[bz (fun z=>q (V.str.inj z)),ajT (p:=fun e:cw=>decide (e.name=n)) (by rw[ek q];decide)];exact AN es n
noncomputable abbrev NQ:I KK.S:=[.set 5 (.call 75 [.aq 0,.lit (.int 96)]),.iff (.ay .gt (.bin .mod (.aq 5) (.lit (.int 3))) (.lit (.int 0))) [.set 6 (.sub (.ab [.lit (.int 1),.lit (.int 2),.lit (.int 3),.lit (.int 17)]) (.bin .fdiv (.aq 5) (.lit (.int 24)))),.set 7 (.ay .eq (.bin .mod (.bin .fdiv (.aq 5) (.lit (.int 3))) (.lit (.int 2))) (.lit (.int 1))),.set 8 (.sub (.ab [.lit (.int 0),.lit (.int 0),.lit (.int 8),.lit (.int 16)]) (.bin .mod (.bin .fdiv (.aq 5) (.lit (.int 6))) (.lit (.int 4)))),.set 9 (.ay .eq (.bin .mod (.aq 5) (.lit (.int 3))) (.lit (.int 2))),.fG (.aq 2) (.aq 4) (.ab [.ite (.aq 9) (.bin .bor (.aq 6) (.lit (.int 16))) (.aq 6),.aq 7,.ay .gt (.aq 8) (.lit (.int 0))]),.set 10 (.bin .add (.bin .add (.aq 8) (.ite (.aq 9) (.lit (.int 1)) (.lit (.int 0)))) (.ite (.aq 7) (.lit (.int 2)) (.lit (.int 0)))),.expr (.append (.aq 3) (.ab [.aq 4,.call 76 [.aq 1,.aq 6],.aq 10,.ite (.ay .gt (.aq 8) (.lit (.int 0))) (.lit (.int 1)) (.lit (.int 0))]))] []]
noncomputable abbrev F0:I KK.S:=[.set 6 (.sub (.ab [.lit (.int 1),.lit (.int 2),.lit (.int 3),.lit (.int 17)]) (.bin .fdiv (.aq 5) (.lit (.int 24)))),.set 7 (.ay .eq (.bin .mod (.bin .fdiv (.aq 5) (.lit (.int 3))) (.lit (.int 2))) (.lit (.int 1))),.set 8 (.sub (.ab [.lit (.int 0),.lit (.int 0),.lit (.int 8),.lit (.int 16)]) (.bin .mod (.bin .fdiv (.aq 5) (.lit (.int 6))) (.lit (.int 4)))),.set 9 (.ay .eq (.bin .mod (.aq 5) (.lit (.int 3))) (.lit (.int 2)))]
structure y6(σ:St)(dv eM:H)(es:I cw)(ps:I fy):Prop where
 rF:σ[dv]?=D (.dict .s (es.map cw.b5))
 lst:σ[eM]?=D (.list (ps.map pv))
 ok:hW es ps
 ne:dv≠eM
noncomputable def uF(eE:H)(free closed:au):H:=eE+(if free then 1 else 0)+(if closed then 2 else 0)
noncomputable def vc(nm:aK)(ty eE:H)(free closed:au):fy:=⟨nm,ty,uF eE free closed,if decide ((eE:O) >0)then 1 else 0⟩
noncomputable def pR(nm:aK)(mask eE:H)(free closed:au):cw:=⟨nm,if free then mask|||16 else mask,closed,decide ((eE:O) >0)⟩
theorem Y7{free closed:au}:∀eE∈ [0,8,16],(uF eE free closed &&& 24=0↔decide ((eE:O) >0)=aw)/\(uF eE free closed &&& 2≠0↔closed=ae):=by
 cases free <;>cases closed <;>decide
theorem ve{a b:H}(h:0 < b):hM .mod (.int a) (.int (b:H))=D (.int ((a % b:H):O)):=a7 (fv.mpr h)
inductive SH(xs:I O)(M:O)(T:ak)(S:I (V×V))(A:bw)(R:be)(at_ g m:H)(nm:aK)(dv eM:H)(es:I cw)(s5 s6 s7 s8 s9 s10:aJ V)(σ:St):Prop
 |mk (af:St) (aB:ak) (nc:I cw) (aeB:I fy) (vJ nM p6 ahI ahK ahE:aJ V) (e:cQ PP (az PP (m+6)) NQ [D (.obj 1),D (.obj 2),D (.obj dv),D (.obj eM),D (.str nm),s5,s6,s7,s8,s9,s10,aa,aa,aa] σ=D (.next,[D (.obj 1),D (.obj 2),D (.obj dv),D (.obj eM),D (.str nm),vJ,nM,p6,ahI,ahK,ahE,aa,aa,aa],af))
  (w:World xs M aB S A R (at_+1) g af) (l:T.bJ aB) (o:y6 af dv eM nc aeB) (off:Off aB A R g af [dv,eM]) (more:nc=es\/∃e,e.name=nm/\nc=es++ [e])
section
variable {P:c4}{C:Cl}{J:Loc}{σ aC bn ct:St}
theorem agz{o i e:E}{n:H}{k v:V}{aW:gp}{kvs:I (V×V)}(ag:aG P C e J σ=D (v,aC))(ah:aG P C o J aC=D (.obj n,bn))(aN:aG P C i J bn=D (k,ct))(b1:ct[n]?=D (.dict aW kvs))(am:aW.ok k=ae)(aj:kvs.length < a4):gI P C (.fG o i e) J σ=D (.next,J,ct.set n (.dict aW (dI kvs k v))):=av ag (av ah (av aN (by dsimp only;rw[b1];exact a7 (ei.mpr ⟨am,cW aj⟩))))
theorem TO{o x:E}{n:H}{v:V}{us vs:I V}(ag:aG P C o J σ=D (.obj n,aC))(ah:aC[n]?=D (.list us))(aN:aG P C x J aC=D (v,bn))(b1:bn[n]?=D (.list vs))(aj:vs.length < a4):aG P C (.append o x) J σ=D (.none,bn.set n (.list (vs++ [v]))):=av ag ((xN (Fc ah)).trans (av aN (by dsimp only;rw[b1];exact a7 aj)))
end
inductive SG(C:Cl)(y:H)(σ:St):Prop
 |mk (mask eE:H) (closed free:au) (h:eE∈ [0,8,16]) (e:∀ {a b c d e s6 s7 s8 s9 s10:aJ V},cQ PP C F0 [a,b,c,d,e,D (.int y),s6,s7,s8,s9,s10,aa,aa,aa] σ=D (.next,[a,b,c,d,e,D (.int y),D (.int mask),D (.bool closed),D (.int eE),D (.bool free),s10,aa,aa,aa],σ))
section
variable {xs:I O}{M:O}{T aB:ak}{S:I (V×V)}{A:bw}{R:be}{at_ g m n:H}{σ af aC:St}
theorem adC{C:Cl}{y:H}(bo:y < 96):SG C y σ:=⟨la [1,2,3,17] (y / 24),la [0,0,8,16] (y / 6 % 4),decide (((y / 3 % 2:H):O)=1),decide (((y % 3:H):O)=2),
  nA (p:=fun i=>la [0,0,8,16] i∈ [0,8,16]) (.head _) (.head _) (.tail _ (.head _)) (.tail _ (.tail _ (.head _))) _ (Rk _ (by decide)),fun{a b c d e s6 s7 s8 s9 s10}=>g4 PP C F0 [a,b,c,d,e,D (.int y),s6,s7,s8,s9,s10,aa,aa,aa] σ (uC (a:=y) (b:=24) (by decide) (by decide)) (nA (p:=fun i=>ee σ (.ab [.int 1,.int 2,.int 3,.int 17]) (.int i)=D (.int (la [1,2,3,17] i))) rfl rfl rfl rfl (y / 24) (Nat.div_lt_of_lt_mul bo))
  (uC (a:=y) (b:=3) (by decide) (by decide)) (ve (a:=y / 3) (b:=2) (by decide)) rfl (uC (a:=y) (b:=6) (by decide) (by decide)) (ve (a:=y / 6) (b:=4) (by decide)) (nA (p:=fun i=>ee σ (.ab [.int 0,.int 0,.int 8,.int 16]) (.int i)=D (.int (la [0,0,8,16] i))) rfl rfl rfl rfl (y / 6 % 4) (Rk _ (by decide)))
  (ve (a:=y) (b:=3) (by decide)) rfl⟩
theorem World.F1(h:World xs M T S A R at_ (g+8) σ){nm:aK}{dv eM:H}{es:I cw}{ps:I fy}(o:y6 σ dv eM es ps)(off:Off T A R (g+8) σ [dv,eM])(aj:es.length < 3)(aZ:∀e∈es,e.name≠nm){s5 s6 s7 s8 s9 s10:aJ V}:SH xs M T S A R at_ g m nm dv eM es s5 s6 s7 s8 s9 s10 σ:=by
 refine cps fun G bV=> ?_
 obtain⟨aC,y,lp,aT,a9,s1⟩:=World.hp (g:=g+7) (m:=m+5) h (n:=96) (by decide)
 have no:∀ {d:H},d∈ [dv,eM]->d∉fc:=fun hd q=>o1.mpr (off.low _ hd).1 ((by decide:∀i∈fc,i<=20) _ q)
 have t1:=s1.get o.rF (no (.head _))
 have cL:=s1.get o.lst (no (.tail _ (.head _)))
 have jz:Off T A R (g+7) aC [dv,eM]:=off.step (g:=g+7) (c:=1) s1 rfl
 have low:∀ {n},n < 3->n < a4:=fun h=>fN h (by decide)
 by_cases q:0 < y % 3
 ·obtain⟨mask,eE,closed,free,aab,em⟩:=adC (σ:=aC) (C:=az PP (m+6)) lp
  have b5:cx (es.map cw.b5) (.str nm)=aa:=by
   rw[AN,ajV.mpr fun e he=>by rw[ek (aZ e he)];decide];rfl
  have ks:dI (es.map cw.b5) (.str nm) (.ab [.int (pR nm mask eE free closed).mask,.bool closed,.bool (decide ((eE:O) >0))])=(es++ [pR nm mask eE free closed]).map cw.b5:=by rw[xw _ _ _ b5,oZ];rfl
  obtain⟨bE,pT⟩:=a9.vD jz (.head _) (.dict .s ((es++ [pR nm mask eE free closed]).map cw.b5))
  have fH:(aC.set dv (.dict .s ((es++ [pR nm mask eE free closed]).map cw.b5)))[dv]?=_:=h9 t1
  have ci:(aC.set dv (.dict .s ((es++ [pR nm mask eE free closed]).map cw.b5)))[eM]?=_:=c6 cL o.ne
  obtain⟨ct,ty,iU,l,bZ,cG,ab3,_,_,_,_,s3,_,WG⟩:=World.kind (g:=g+1) (m:=m+1) bE mask
  have fJ:=s3.get ci (no (.tail _ (.head _)))
  obtain⟨eH,ady⟩:=cG.vD (pT.step (g:=g+1) (c:=6) s3 WG) (.tail _ (.head _)) (.list ((ps++ [vc nm ty eE free closed]).map pv))
  have O9:gI PP (az PP (m+6)) (.fG (.aq 2) (.aq 4) (.ab [.ite (.aq 9) (.bin .bor (.aq 6) (.lit (.int 16))) (.aq 6),.aq 7,.ay .gt (.aq 8) (.lit (.int 0))])) [D (.obj 1),D (.obj 2),D (.obj dv),D (.obj eM),D (.str nm),D (.int y),D (.int mask),D (.bool closed),D (.int eE),D (.bool free),s10,aa,aa,aa] aC=_:=agz (v:= .ab [.int (pR nm mask eE free closed).mask,.bool closed,.bool (decide ((eE:O) >0))]) (kJ (oe (v:= .int (pR nm mask eE free closed).mask) (by
    refine(oy (v:= .int ((mask|||16:H):O)) (w:= .int mask) (bF rfl) (kX (bF rfl) cE rfl) (bF rfl)).trans ?_
    cases free <;>rfl) (bF rfl) (gc (bF rfl) cE rfl))) (bF rfl) (bF rfl) t1 rfl (by rw[d5];exact low aj)
  rw[ks]at O9
  have Y6:aG PP (az PP (m+6)) (.bin .add (.bin .add (.aq 8) (.ite (.aq 9) (.lit (.int 1)) (.lit (.int 0)))) (.ite (.aq 7) (.lit (.int 2)) (.lit (.int 0)))) [D (.obj 1),D (.obj 2),D (.obj dv),D (.obj eM),D (.str nm),D (.int y),D (.int mask),D (.bool closed),D (.int eE),D (.bool free),s10,aa,aa,aa] (aC.set dv (.dict .s ((es++ [pR nm mask eE free closed]).map cw.b5)))=D (.int (uF eE free closed:H),_):=kX (kX (bF rfl) (oy (bF rfl) cE cE) (x:= .int ((eE+(if free then 1 else 0):H):O)) (by cases free <;>rfl)) (oy (bF rfl) cE cE) (by cases closed <;>rfl)
  have I3:=TO (P:=PP) (C:=az PP (m+6)) (J:=[D (.obj 1),D (.obj 2),D (.obj dv),D (.obj eM),D (.str nm),D (.int y),D (.int mask),D (.bool closed),D (.int eE),D (.bool free),D (.int (uF eE free closed:H)),aa,aa,aa]) (o:= .aq 3) (x:= .ab [.aq 4,.call 76 [.aq 1,.aq 6],.aq 10,.ite (.ay .gt (.aq 8) (.lit (.int 0))) (.lit (.int 1)) (.lit (.int 0))]) (v:=pv (vc nm ty eE free closed)) (bF rfl) ci
   (kJ (eO (bF rfl) (oe (jm (jc (bF rfl) (bF rfl)) bZ) (bF rfl) ((oy (gc (bF rfl) cE rfl) cE cE).trans (by unfold vc;cases decide ((eE:O) >0) <;>rfl))))) fJ (by rw[d5,o.ok.len];exact low aj)
  rw[show ps.map pv++ [pv (vc nm ty eE free closed)]=(ps++ [vc nm ty eE free closed]).map pv from by rw[oZ];rfl]at I3
  exact bV ⟨_,iU,es++ [pR nm mask eE free closed],ps++ [vc nm ty eE free closed],D (.int y),D (.int mask),D (.bool closed),D (.int eE),D (.bool free),D (.int (uF eE free closed:H)),
   de (et (jm (jc (bF rfl) cE) aT)) (de (E0 (v:= .bool ae) (gc (kX (bF rfl) cE (ve (a:=y) (b:=3) (by decide))) cE (Ac (fv.mpr q))) rfl (lX (a:=F0) em (de O9 (de (et Y6) (de (KD I3) rfl))))) rfl),
   eH.less (eJ g),ab3,⟨c6 (s3.get fH (no (.head _))) o.ne.symm,h9 fJ,hW.snoc ⟨rfl,Y7 eE aab⟩ o.ok,o.ne⟩,ady.step (g:=g) (c:=1) (bx.refl ..) rfl,.inr ⟨_,rfl,rfl⟩⟩
 ·exact bV ⟨aC,T,es,ps,D (.int y),s6,s7,s8,s9,s10,g4 PP (az PP (m+6)) NQ [D (.obj 1),D (.obj 2),D (.obj dv),D (.obj eM),D (.str nm),s5,s6,s7,s8,s9,s10,aa,aa,aa] σ aT (ve (a:=y) (b:=3) (by decide)) (Ab fun z=>q (fv.mp z)),a9.less (cn ..),ak.bJ.refl T,⟨t1,cL,o.ok,o.ne⟩,jz.step (g:=g) (c:=7) (bx.refl ..) rfl,.inl rfl⟩
end
noncomputable def j6:aK:=⟨#[114]⟩
noncomputable def GH:aK:=⟨#[119]⟩
noncomputable def j3(ps:I fy)(c way:H):cX:= {props:=ps,calls:= .ab [],ctors:= .ab [],gO:=fg c 2 (.ab [.int 7,.int 0]) (.ab []),mz:= .ab [],flag:=fg way 1 1 0}
theorem acF(ps:I fy)(c way:H):V.fS [(j3 ps c way).calls,(j3 ps c way).ctors,(j3 ps c way).gO,(j3 ps c way).mz]=ae:=by
 show(ae && (ae && (V.gS 4 _ && (ae && ae))))=ae
 rw[j3,x8 rfl rfl];rfl
theorem FM{es nc:I cw}{nm:aK}{L:I aK}(h:(es.map cw.name).Sublist L)(m:nc=es\/∃e,e.name=nm/\nc=es++ [e]):(nc.map cw.name).Sublist (L++ [nm]):=by
 rcases m with rfl|⟨e,rfl,rfl⟩
 ·exact h.trans (aj9 _ _)
 ·rw[oZ];exact h.append (QY _)
theorem PG{es:I cw}{nm:aK}{L:I aK}(h:(es.map cw.name).Sublist L)(aZ:∀x∈L,x≠nm):∀e∈es,e.name≠nm:=fun e he=>aZ _ (h.subset (rT he))
theorem G3{es:I cw}{L:I aK}(h:(es.map cw.name).Sublist L):es.length<=L.length:=by have:=h.length_le;rw[d5]at this;exact this
noncomputable def nE(dv:H)(Hj eC dS dT d3 v8 v9 v10 v11 fh dr:aJ V):Loc:=[D (.obj 1),D (.obj 2),D (.obj dv),Hj,eC,dS,dT,d3,v8,v9,v10,v11,fh,dr]
noncomputable abbrev z4:I KK.S:=[.iff (.ay .eq (.aq 2) (.iD .s)) [.fG (.aq 2) (.lit (.str ⟨#[112]⟩)) (.ab [.lit (.int 1),.lit (.bool aw),.lit (.bool aw)]),.set 3 (.lst [.ab [.lit (.str ⟨#[112]⟩),.call 76 [.aq 1,.lit (.int 1)],.lit (.int 0),.lit (.int 0)]])] []]
inductive So(xs:I O)(M:O)(T:ak)(S:I (V×V))(A:bw)(R:be)(at_ g m dv eM:H)(σ:St):Prop
 |mk (af:St) (aB:ak) (es:I cw) (ps:I fy) (rx:V) (e:∀ {eC dS dT d3 v8 v9 v10 v11 fh dr},cQ PP (az PP (m+6)) z4 (nE dv (D (.obj eM)) eC dS dT d3 v8 v9 v10 v11 fh dr) σ=D (.next,nE dv (D rx) eC dS dT d3 v8 v9 v10 v11 fh dr,af)) (w:World xs M aB S A R at_ g af) (l:T.bJ aB)
  (ok:hW es ps) (ne:es≠ []) (sub:(es.map cw.name).Sublist [ij,j5,j6]) (rF:af[dv]?=D (.dict .s (es.map cw.b5))) (ao:rx= .lst (ps.map pv)\/∃d,rx= .obj d/\af[d]?=D (.list (ps.map pv)))
inductive SI(xs:I O)(M:O)(T:ak)(S:I (V×V))(A:bw)(R:be)(g m:H)(σ:St):Prop
 |mk (af:St) (aB:ak) (s i:H) (o:cX) (dv:H) (es:I cw) (at':H) (e:az PP (m+7) 83 [.obj 1,.obj 2] σ=D (.ab [.int (s:H),.obj dv],af)) (w:World xs M aB S A R at' g af) (l:T.bJ aB) (rA:gq aB s i o) (len:o.props.length<=3) (ok:hW es o.props) (ne:es≠ []) (cj:(es.map cw.name).Nodup)
  (rF:af[dv]?=D (.dict .s (es.map cw.b5))) (low:20 < dv)
section
variable {xs:I O}{M:O}{T aB:ak}{S:I (V×V)}{A:bw}{R:be}{at_ g m n:H}{σ af aC:St}
theorem Mk{C:Cl}{J:Loc}{c a b:E}{t:au}{v w:V}(aE:aG PP C c J σ=D (.bool t,aC))(aI:aG PP C a J aC=D (v,aC))(ax:aG PP C b J aC=D (w,aC)):aG PP C (.ite c a b) J σ=D (if t then v else w,aC):=by
 cases t
 ·exact uX (t:=aw) aE rfl ax
 ·exact uX (t:=ae) aE rfl aI
theorem Ks{d:H}{l:I (V×V)}(h:σ[d]?=D (.dict .s l)):dF (σ++ [.dict .s []]) .eq (.obj d) (.obj σ.length)=D l.isEmpty:=by
 show nT (σ++ [.dict .s []]) (.obj d) (.obj σ.length)=_
 unfold nT;dsimp only;rw[e4 h,fP];rfl
theorem lK{d:H}(h:20 < d):d∉fc:=fun q=>o1.mpr h ((by decide:∀i∈fc,i<=20) _ q)
theorem World.fill(h:World xs M T S A R at_ (g+14) σ){dv eM:H}{es:I cw}{ps:I fy}(o:y6 σ dv eM es ps)(off:Off T A R (g+14) σ [dv,eM])(sub:(es.map cw.name).Sublist [ij,j5,j6]):So xs M T S A R at_ g m dv eM σ:=by
 refine cps fun G bV=> ?_
 cases es with
 |nil=>
  have PO:(σ++ [Cell.dict .s []])[dv]?=D (.dict .s []):=e4 o.rF
  obtain⟨gk,_⟩:=(h.more [.dict .s []]).vD (off.step (g:=g+14) (c:=0) bx.append rfl) (.head _) (.dict .s [cw.b5 ⟨ij,1,aw,aw⟩])
  obtain⟨qq,ty,pg,l,qR,iI,ab4,_,_,_,_,s7,_,alR⟩:=World.kind (g:=g+8) (m:=m+1) gk 1
  exact bV ⟨qq,pg,[⟨ij,1,aw,aw⟩],[⟨ij,ty,0,0⟩],.lst [pv ⟨ij,ty,0,0⟩],fun{eC dS dT d3 v8 v9 v10 v11 fh dr}=>(g4 PP (az PP (m+6)) z4 (nE dv (D (.obj eM)) eC dS dT d3 v8 v9 v10 v11 fh dr) σ (Ks o.rF)).1 PO rfl qR,
   iI.less (cn ..),ab4,(.cons ⟨rfl,(by decide:(0 &&& 24=0↔aw=aw)),(by decide:(0 &&& 2≠0↔aw=ae))⟩ .nil),nofun,(QY [ij]).trans (aj9 [ij] [j5,j6]),s7.get (h9 PO) (lK (off.low _ (.head _)).1),.inl rfl⟩
 |cons e es=>
  exact bV ⟨_,T,e::es,ps,.obj eM,fun{eC dS dT d3 v8 v9 v10 v11 fh dr}=>g4 PP (az PP (m+6)) z4 (nE dv (D (.obj eM)) eC dS dT d3 v8 v9 v10 v11 fh dr) σ (Ks o.rF),(h.more [.dict .s []]).less (cn ..),ak.bJ.refl _,o.ok,nofun,sub,e4 o.rF,.inr ⟨eM,rfl,e4 o.lst⟩⟩
theorem World.object(h:World xs M T S A R at_ (g+60) σ):SI xs M T S A R g m σ:=by
 refine cps fun G bV=> ?_
 have adz:y6 ((σ++ [.dict .s []])++ [.list []]) σ.length (σ++ [Cell.dict .s []]).length [] []:=⟨e4 fP,fP,.nil,by rw[jg];exact(akA _).symm⟩
 obtain⟨aC,du,alS,amt,C2,qB,Tr,Ts,Tt,wr,aT,a9,cL,adA,adH,k6⟩:=World.F1 (g:=g+52) (m:=m) (nm:=ij) (s5:=aa) (s6:=aa) (s7:=aa) (s8:=aa) (s9:=aa) (s10:=aa) ((h.more [.dict .s []]).more [.list []]) adz (Off.VY h _ _) (by decide) nofun
 have G0:=FM (es:=[]) (L:=[]) (QY []) k6
 obtain⟨bn,eK,alT,amu,km,h2,qK,ml,qL,V4,aX,bE,ci,adB,adI,gE⟩:=World.F1 (g:=g+44) (m:=m) (nm:=j5) (s5:=C2) (s6:=qB) (s7:=Tr) (s8:=Ts) (s9:=Tt) (s10:=wr) a9 adA adH (c9 (G3 G0) (by decide)) (PG G0 (by decide))
 have G1:=FM G0 gE
 obtain⟨ct,iU,alU,amv,fB,ja,eN,sg,sh,oc,bZ,cG,fJ,Be,NT,mI⟩:=World.F1 (g:=g+36) (m:=m) (nm:=j6) (s5:=km) (s6:=h2) (s7:=qK) (s8:=ml) (s9:=qL) (s10:=V4) bE adB adI (c9 (G3 G1) (by decide)) (PG G1 (by decide))
 have ahz:=FM G1 mI
 obtain⟨iq,way,lp,dP,eH,s4⟩:=World.hp (g:=g+35) (m:=m+5) cG (n:=3) (by decide)
 obtain⟨hT,c,gx,eD,eY,s5⟩:=World.hp (g:=g+34) (m:=m+5) eH (n:=3) (by decide)
 have GF:=s4.trans s5
 have low:=fun d (hd:d∈ [σ.length,(σ++ [Cell.dict .s []]).length])=>lK (NT.low d hd).1
 obtain⟨iN,m1,es,ps,rx,hL,gk,j1,F5,Nx,PD,nM,ao⟩:=World.fill (g:=g+20) (m:=m) eY ⟨GF.get Be.rF (low _ (.head _)),GF.get Be.lst (low _ (.tail _ (.head _))),Be.ok,Be.ne⟩ (NT.step (g:=g+34) (c:=2) GF rfl) ahz
 have xA:ps.length<=3:=by rw[F5.len];exact G3 PD
 obtain⟨qq,pg,s,qR,iI,mF,iG,_,s7⟩:=World.put (g:=g+19) (m:=m+5) gk (BC (acF ps c way))
 have rj:=h.ny
 have p6:=s7.get nM (lK rj)
 have sm:cQ PP (az PP (m+6)) (zp.take 3) [D (.obj 1),D (.obj 2),aa,aa,aa,aa,aa,aa,aa,aa,aa,aa,aa,aa] σ=D (.next,nE σ.length (D (.obj (σ++ [Cell.dict .s []]).length)) (D (.str j6)) fB ja eN sg sh oc aa aa aa,ct):=(g4 PP (az PP (m+6)) (zp.take 3) [D (.obj 1),D (.obj 2),aa,aa,aa,aa,aa,aa,aa,aa,aa,aa,aa,aa] σ (show dd ((σ++ [Cell.dict .s []])++ [.list []]) (.ab [.str ij,.str j5,.str j6])=D [.str ij,.str j5,.str j6]from rfl)).1 (mu rfl aT (mu rfl aX (mu rfl bZ (sr rfl))))
 have jD:aG PP (az PP (m+6)) (.tuple (.aq 3)) (nE σ.length (D rx) (D (.str j6)) fB ja eN sg sh oc (D (.int way)) (D (j3 ps c way).gO) aa) iN=D (.ab (ps.map pv),iN):=by
  have lm:(ps.map pv).length<=a4:=cp (cp (gb (d5 _)) xA) (by decide)
  rcases ao with rfl|⟨d,rfl,e⟩
  ·exact jB PP (az PP (m+6)) (.tuple (.aq 3)) (nE σ.length (D (.lst (ps.map pv))) (D (.str j6)) fB ja eN sg sh oc (D (.int way)) (D (j3 ps c way).gO) aa) iN rfl lm
  ·exact jB PP (az PP (m+6)) (.tuple (.aq 3)) (nE σ.length (D (.obj d)) (D (.str j6)) fB ja eN sg sh oc (D (.int way)) (D (j3 ps c way).gO) aa) iN (k4 e) lm
 have pre:∀ {v:V} {af:St},aG PP (az PP (m+6)) (.ite (.ay .eq (.aq 11) (.lit (.int 2))) (.call 77 [.aq 1,.aq 13]) (.aq 13)) (nE σ.length (D rx) (D (.str j6)) fB ja eN sg sh oc (D (.int way)) (D (j3 ps c way).gO) (D (.int s))) qq=D (v,af)->az PP (m+7) 83 [.obj 1,.obj 2] σ=D (.ab [v,.obj σ.length],af):=fun bu=>k0 rfl rfl (lX (b:=zp.drop 3) sm (de (et (jm (jc (bF rfl) cE) dP)) (de (et (v:=(j3 ps c way).gO) (af:=hT) (Mk (gc (jm (jc (bF rfl) cE) eD) cE rfl) rfl rfl)) (lX (a:=z4) hL
   (de (et (sY (bF rfl) gk.inv.tab.bT sX (jT (v:=(j3 ps c way).row) (kJ (eO cE (eO jD (eO rfl (eO rfl (eO (bF rfl) (eO rfl (jT (v:= .int (j3 ps c way).flag) ((oN (n:=way) rfl cE cE).trans (bs (fun v=>D (v,iN)) (GI (v:=(1:O)) (w:=0) V.int)))))))))))) qR)) (GJ (Gx (kJ (jc bu (bF rfl)))))))))) rfl
 have u4:=(((cL.trans ci).trans fJ).trans j1).trans mF
 have cj:=ajP PD (by decide)
 by_cases q:way=2
 ·obtain⟨CJ,CZ,t,dy,pw,oS,u3,jA,WJ,_,s8⟩:=World.declared (g:=g+18) (m:=m+3) iI (b:=s)
  exact bV ⟨CJ,CZ,t,s,j3 ps c way,σ.length,es,_,pre (jB PP (az PP (m+6)) (.ite (.ay .eq (.aq 11) (.lit (.int 2))) (.call 77 [.aq 1,.aq 13]) (.aq 13)) (nE σ.length (D rx) (D (.str j6)) fB ja eN sg sh oc (D (.int way)) (D (j3 ps c way).gO) (D (.int s))) qq (eqT (bs l3 q)) pw),oS.less (cn ..),u4.trans u3,
   .ref jA WJ (c9 (cp (cn ..) iI.room.kF) (by decide)) (u3.row iG),xA,F5,Nx,cj,s8.get p6 (lK rj),rj⟩
 ·exact bV ⟨qq,pg,s,s,j3 ps c way,σ.length,es,_,pre (jB PP (az PP (m+6)) (.ite (.ay .eq (.aq 11) (.lit (.int 2))) (.call 77 [.aq 1,.aq 13]) (.aq 13)) (nE σ.length (D rx) (D (.str j6)) fB ja eN sg sh oc (D (.int way)) (D (j3 ps c way).gO) (D (.int s))) qq (bf (dB q))),iI.less (cn ..),u4,.obj iG,xA,F5,Nx,cj,p6,rj⟩
end
theorem MJ(l:I (V×V))(k v:V)(h:cx l k=aa):(dI l k v).length=l.length+1:=by rw[xw l k v h,jg]
theorem T6{a b c l:H}{x y:O}(h:((a+b:H):O)<=x+(c:H)/\c<=100)(aE:c < 100):((a+1+b:H):O)<=x+((c+1:H):O)/\c+1<=100:=by omega
section
variable {xs:I O}{M:O}{T aB:ak}{S:I (V×V)}{A:bw}{R:be}{at_ g m n:H}{σ af aC:St}
theorem kd_len{T:ak}{s:H}{k:O}(h:aW T s=D k):s < T.rows.length:=have ⟨r,e⟩:=iY h;gh e
theorem World.adi(h:World xs M T S A R at_ g σ){s t:H}(aY:T.rows.length<=s)(cc:s≠t):cx R.bk (cB s t)=aa/\cx S (cB s t)=aa:=by
 constructor
 ·cases q:cx R.bk (cB s t)with
  |none=>rfl
  |some v=>
   obtain⟨bc,eF,b,n,c,aT,aX,bZ⟩:=h.inv.bk _ _ q
   obtain⟨k1,dQ⟩:=xr aT
   rw[<-fM k1,<-fM dQ]at bZ
   cases n with
   |zero=>exact nomatch bZ
   |succ n=>exact i7 ((bz cc).symm.trans bZ) fun a a6 _=>absurd (kd_len a6) (mT.mpr aY)
 ·cases q:cx S (cB s t)with
  |none=>rfl
  |some v=>
   obtain⟨bc,eF,aT,aX⟩:=h.p1 _ _ q
   exact absurd (fM (xr aT).1▸aX) (mT.mpr aY)
theorem World.agj(h:World xs M T S A R at_ g σ){s t:H}{b:au}(am:cx R.bk (cB s t)=aa)(aY:cx S (cB s t)=aa)(aj:s < T.rows.length)(kq:S.length < 100)
  (aI:∃n,cy T M (dI S (cB s t) (.bool b)) n s t=D (b,0)):
  World xs M T (dI S (cB s t) (.bool b)) A {R with bk:=dI R.bk (cB s t) (.bool b)} at_ g (σ.set 15 (.dict .t (dI R.bk (cB s t) (.bool b)))):=by
 have i:=h.inv
 obtain⟨k1,dQ,Av,al3,q8⟩:=h.inst
 obtain⟨bg,i0⟩:=i.rel.AM (l:=dI R.bk (cB s t) (.bool b))
 rw[Av]at bg i0
 have ahC:gW S (dI S (cB s t) (.bool b)):=fun k v q=>by
  rw[nx]
  split
  ·rename_i e;rw[<-e,aY]at q;cases q
  ·exact q
 obtain⟨fK,eu,eG⟩:=i.rC (i0.dC (k9 (Av▸ .tail _ (.tail _ (.head _)))))
 obtain⟨n,aZ⟩:=aI
 have no:∀j,decide (j < 12)=ae->j∉ [15]:=fun j cg q=>absurd (dt.mp q▸gy cg) (by decide)
 refine⟨⟨i.a8,fK,eu,eG,bg,⟨i.tidy.dU,i.tidy.nodup,i.tidy.key⟩,i.mode,fun k v q=> ?_,fun k v q=> ?_, ?_,i.da, ?_,i.e8⟩,h.idle,h.deep,h.place,h.ll,⟨i0.get h.d.eT (no 0 rfl),i0.get h.d.eL (no 1 rfl)⟩,h.len,h.ik.step (c:=0) i0 (fun i hi=> .inl (dt.mp hi▸(by decide:15<=20))) rfl (.inl rfl),h.tell,h.mode,fun k v q=> ?_,⟨h.room.dR,h.room.dq,h.room.e2,h.room.gw,h.room.kF,h.room.ih,h.room.iG,h.room.jA⟩⟩
 ·rw[nx]at q
  split at q
  ·rename_i e;cases q;exact⟨s,t,b,n,0,e.symm,rfl,aZ⟩
  ·exact i.bk.grow (ak.bJ.refl T) ahC k v q
 ·rw[nx]at q
  split at q
  ·rename_i e
   rw[nx,a7 e];exact q
  ·rename_i e
   rw[nx,bz e];exact i.lW k v q
 ·intro k am
  exact nomatch h.idle▸(show k∈R.aO from am)
 ·show((((dI R.bk (cB (s:O) t) (.bool b)).length+R.aO.length:H)):O)<=R.dn+((dI S (cB (s:O) t) (.bool b)).length:H)/\(dI S (cB (s:O) t) (.bool b)).length<=100
  rw[MJ _ _ _ am,MJ _ _ _ aY]
  exact T6 (l:=0) (y:=0) i.size kq
 ·rw[nx]at q
  split at q
  ·rename_i e;exact⟨s,t,e.symm,aj⟩
  ·exact h.p1 k v q
end
theorem lE{J:Loc}{i j:H}{v:aJ V}(h:i≠j):c2 (J.set i v) j=c2 J j:=by
 unfold c2;rw[nW h]
theorem oi{J:Loc}{i:H}{v:V}(h:i < J.length):c2 (J.set i (D v)) i=D v:=by
 unfold c2;rw[rS h]
noncomputable def Nt:H->aK
 |0=>ij
 |1=>j5
 |2=>j6
 |_=>GH
noncomputable def iE(k:H):I aK:=(([0,1,2,3]:I H).filter (h1 k)).map Nt
noncomputable def Nu:V->V
 |.int i=> .str (Nt i.toNat)
 |_=> .none
theorem Bc(k:H):(iE k).length<=4:=by
 unfold iE;rw[d5];exact Q9 _ _
theorem aeZ:ii (.int 4)=D [.int 0,.int 1,.int 2,.int 3]:=rfl
theorem VO{C:Cl}{J:Loc}{aF:St}{k i a j:H}(aI:c2 J a=D (.int k))(cg:c2 J j=D (.int i))(hi:i < 5):gC PP C (D (.ay .eq (.bin .mod (.bin .fdiv (.aq a) (.bin .pow (.lit (.int 2)) (.aq j))) (.lit (.int 2))) (.lit (.int 1)))) J aF=D (h1 k i,aF):=by
 have p:hM .pow (.int 2) (.int i)=D (.int ((2 ^ i:H):O)):=rl (p:=fun i=>hM .pow (.int 2) (.int i)=D (.int ((2 ^ i:H):O))) rfl rfl rfl rfl rfl i hi
 rw[show h1 k i=decide (((k / 2 ^ i % 2:H):O)=1)from kQ.mpr ⟨fun h=>bs l3 h,fM⟩]
 exact av (gc (kX (kX (bF aI) (kX cE (bF cg) p) (uC (aku (by decide)) (gm (akt (by decide) hi) (by decide)))) cE (ve (b:=2) (by decide))) cE rfl) rfl
theorem acT{σ:St}{C:Cl}{J:Loc}{k:H}(c7:c2 J 6=D (.int k))(aj:24 < J.length):
  ∃cU,aG PP C (.comp (.sub (.ab [.lit (.str ⟨#[112]⟩),.lit (.str ⟨#[113]⟩),.lit (.str ⟨#[114]⟩),.lit (.str ⟨#[119]⟩)]) (.aq 24)) 24 ae (.lit (.int 4)) (D (.ay .eq (.bin .mod (.bin .fdiv (.aq 6) (.bin .pow (.lit (.int 2)) (.aq 24))) (.lit (.int 2))) (.lit (.int 1))))) J σ=D (.obj σ.length,σ++ .list ((iE k).map .str)::cU):=by
 have four:∀ {v:V},v∈ [V.int 0,.int 1,.int 2,.int 3]->∃i:H,i < 4/\V.int i=v:=fun aH=>
  have ⟨i,a,b⟩:=dk.mp (show _∈(gl 4).map fun i:H=>V.int i from aH)
  ⟨i,qe.mp a,b⟩
 obtain⟨cU,aE⟩:=sb (ck:=fun v aF=>gC PP C (D (.ay .eq (.bin .mod (.bin .fdiv (.aq 6) (.bin .pow (.lit (.int 2)) (.aq 24))) (.lit (.int 2))) (.lit (.int 1)))) (J.set 24 (D v)) aF)
  (f:=fun v aF=>aG PP C (.sub (.ab [.lit (.str ⟨#[112]⟩),.lit (.str ⟨#[113]⟩),.lit (.str ⟨#[114]⟩),.lit (.str ⟨#[119]⟩)]) (.aq 24)) (J.set 24 (D v)) aF)
  (live:=fun _=>ae) (σ:=σ) (c:=zt k) (r:=Nu) [.int 0,.int 1,.int 2,.int 3] [] []
  (fun v aH t=>⟨[],by
   obtain⟨i,hi,rfl⟩:=four aH
   rw[fi]
   exact VO ((lE (by decide)).trans c7) (oi aj) (nY hi)⟩)
  (fun v aH _ t=>⟨[],by
   obtain⟨i,hi,rfl⟩:=four aH
   rw[fi]
   exact lg (v:= .ab [.str ij,.str j5,.str j6,.str GH]) rfl (bF (oi aj)) (nA (p:=fun i=>ee (σ++t) (.ab [.str ij,.str j5,.str j6,.str GH]) (.int i)=D (Nu (.int i))) rfl rfl rfl rfl i hi)⟩) (fun _=>rfl) (by decide)
 rw[qf,show([V.int 0,V.int 1,V.int 2,V.int 3]:I V)=([0,1,2,3]:I H).map (fun(i:H)=>V.int (i:O))from rfl,Q4,iK]at aE
 exact⟨cU,wN (y:= .int 4) (aM:=σ) (vs:=[.int 0,.int 1,.int 2,.int 3]) cE aeZ (aE.trans (bs (fun l=>D (σ++Cell.list l::cU)) (by unfold iE;rw[iK];rfl)))⟩
noncomputable def MX:V->V
 |.str n=>eX n
 |_=> .none
inductive SK(xs:I O)(M:O)(T:ak)(S:I (V×V))(A:bw)(R:be)(at_ g m:H)(nms:I aK)(J:Loc)(σ:St):Prop
 |mk (af:St) (over:H) (aB:ak) (l:I H) (e:aG PP (az PP (m+4)) (.call 14 [.aq 1,.comp (.b6 (.aq 1) 10 [.ab [.lit (.int 3),.aq 25,.lit (.int 0)]]) 25 aw (.aq 7) aa]) J σ=D (.int (over:H),af)) (w:World xs M aB S A R at_ g af) (le:T.bJ aB) (n:iR aB over l) (len:l.length<=4)
  (mem:∀x,x∈l↔∃n∈nms,aB.rows[x]?=D (eX n)) (ex:∀n∈nms,∃x:H,aB.rows[x]?=D (eX n)) (s:bx fc σ af)
inductive Se(xs:I O)(M:O)(T:ak)(S:I (V×V))(A:bw)(R:be)(at_ g m over d:H)(l:I H)(name:V)(σ:St):Prop
 |mk (af:St) (aB:ak) (k:H) (e:az PP (m+2) 6 [.obj 2,name,.int over,.int (-1)] σ=D (.int (k:H),af)) (w:World xs M aB S A R at_ g af) (le:T.bJ aB) (e5:kk aB k l (d+1)) (jw:0 < k) (lt:k < aB.rows.length) (s:bx fc σ af) (r:∃p:H,aB.rows[k]?=D (.ab [.int 10,.int p]))
section
variable {xs:I O}{M:O}{T aB:ak}{S:I (V×V)}{A:bw}{R:be}{at_ g m n:H}{σ af aC:St}
theorem World.ad9(h:World xs M T S A R at_ (g+10) σ){J:Loc}{eN:H}{nms:I aK}(ag:c2 J 1=D (.obj 2))(hy:c2 J 7=D (.obj eN))(aj:25 < J.length)(hd:σ[eN]?=D (.list (nms.map .str)))(ZZ:eN∉ [3,4])(aZ:nms.length<=4):SK xs M T S A R at_ g m nms J σ:=by
 have len:(nms.map V.str).length<=4:=by rw[d5];exact aZ
 have q2:=wO (ck:=fun v aF=>gC PP (az PP (m+4)) aa (J.set 25 (D v)) aF)
  (f:=fun v aF=>aG PP (az PP (m+4)) (.b6 (.aq 1) 10 [.ab [.lit (.int 3),.aq 25,.lit (.int 0)]]) (J.set 25 (D v)) aF)
  (live:=eQ σ (.obj eN)) (c:=fun _=>ae) (rowf:=MX) (L:=σ.length) (g:=g+1) (nms.map .str) [] σ T rfl (h.less (by rw[jK];exact qg (cp (qg len 1) (by decide)) g))
  (fun v aH _=>by
   obtain⟨n,_,rfl⟩:=dk.mp aH
   exact ry n)
  (fun v aH aF=>rfl)
  (fun v aH _ T aF g w=>by
   obtain⟨n,_,rfl⟩:=dk.mp aH
   exact sY (bF ((lE (by decide)).trans ag)) w.inv.tab.bT sX (jT (v:=eX n) (kJ (oe cE (bF (oi aj)) cE))) (w.Ov (m:=m+3) (ry n)).1)
  (fun aF t s=>by
   unfold eQ;dsimp only
   rw[hd,e4 (s.get hd ZZ)];exact cW rfl) (c9 (cp (gb (g7 _)) len) (by decide))
 rw[z5,iK,iK,show MX ∘ V.str=eX from rfl]at q2
 obtain⟨aC,aE,eo,a9,s1⟩:=q2
 have nn:∀ {n},n∈nms->(T.ho (nms.map eX)).rows[(T.ho (nms.map eX)).pos (eX n)]?=D (eX n):=fun aZ=>ak.pos_at (ak.xY _ _ _ (rT aZ))
 have le:=ak.vu (nms.map eX) T
 generalize T.ho (nms.map eX)=du at *
 have iH:=a9.inv.a8
 have jX:∀ {x},x∈nms.map (fun n=>du.pos (eX n))->∃n∈nms,du.rows[x]?=D (eX n):=fun aA=>by
  obtain⟨n,aZ,rfl⟩:=dk.mp aA
  exact⟨n,aZ,nn aZ⟩
 obtain⟨bn,u,aB,l,fK,eu,eG,nQ,nR,jE,oP,vO,vP,vN,Hf⟩:=World.ys (m:=m) (a9.more [.list ([]++nms.map fun n=> .int (du.pos (eX n):H))]) (pv:= .obj σ.length) (ts:=nms.map fun n=>du.pos (eX n))
  (.inr (.inr ⟨_,rfl,by rw[<-eo,iK];exact fP⟩))
  (fun t aP=>by
   obtain⟨n,aZ,e⟩:=jX aP
   exact BR iH e)
  (by rw[d5];exact c9 aZ (by decide))
  (fun x aA=>by
   obtain⟨n,_,e⟩:=jX aA
   exact BS iH e)
  (.inl ⟨fun q=>have ⟨n,_,e⟩:=jX q;absurd (iH.big e (by decide)) (by decide),fun q=>have ⟨n,_,e⟩:=jX q;absurd (iH.big e (by decide)) (by decide)⟩)
 exact⟨bn,u,aB,l,jm (jc (bF ag) (wN (y:= .obj eN) (aM:=σ) (vs:=nms.map .str) (bF hy) (sM hd) aE)) fK,eu,le.trans eG,nQ.nms eu.inv.a8 (fun x aA=>have ⟨n,_,e⟩:=jX ((jE x).mp aA);GZ (eG.row e)),cp vN (by rw[d5];exact aZ),
  fun x=>(jE x).trans ⟨fun aA=>have ⟨n,aZ,e⟩:=jX aA;⟨n,aZ,eG.row e⟩,fun⟨n,aZ,e⟩=>dk.mpr ⟨n,aZ,mJ eu.inv.tab.nodup (eG.row (nn aZ)) e⟩⟩,fun n aZ=>⟨_,eG.row (nn aZ)⟩,((s1.dC (by decide)).trans bx.append).trans (oP.dC (by decide))⟩
theorem kk.le{T aB:ak}(le:T.bJ aB){s d:H}{l:I H}(aY:kk T s l d):kk aB s l d:=by
 induction aY with
 |names aZ=>exact .names (aZ.le le)
 |param ax h0 gL _ bh=>exact .param (Bo le ax) h0 gL bh
theorem World.chain(h:World xs M T S A R at_ (g+1) σ){over d:H}{l:I H}{name:V}(aY:kk T over l d)(h0:0 < over)(aj:over < T.rows.length):Se xs M T S A R at_ g m over d l name σ:=by
 obtain⟨af,aB,k,e,w,le,r,b,_,s⟩:=World.param (m:=m) h (name:=name) (dflt:= .int (-1)) (b:=(over:O))
 have lt:=gm aj (h.fresh le r)
 exact⟨af,aB,k,e,w,le,.param (Oh r b (c9 (cp (cn ..) h.room.dq) (by decide))) h0 lt (aY.le le),fN h0 lt,gh r,s,_,r⟩
end
noncomputable def kZ(es:I cw)(n:aK):aJ cw:=es.find? fun e=>decide (e.name=n)
noncomputable def vy(es:I cw)(nms:I aK):I H:=nms.filterMap fun n=>(kZ es n).map (·.mask)
noncomputable def hO(es:I cw)(n:aK):au:=match kZ es n with|some e=> !e.hidden|none=>aw
noncomputable def uL(es:I cw):V->au
 |.str n=>(kZ es n).isSome
 |_=>aw
noncomputable def A1(es:I cw):V->V
 |.str n=>match kZ es n with|some e=> .int e.mask|none=> .none
 |_=> .none
noncomputable def agl(es:I cw):V->V
 |.str n=> .bool (hO es n)
 |_=> .none
theorem abS{es:I cw}{n:aK}{e:cw}(h:kZ es n=D e):cx (es.map cw.b5) (.str n)=D (.ab [.int e.mask,.bool e.closed,.bool e.hidden]):=(AN es n).trans (bs _ h)
theorem Al{es:I cw}{n:aK}{e:cw}(q:kZ es n=D e):uL es (.str n)=ae/\A1 es (.str n)= .int e.mask/\hO es n= !e.hidden:=by
 unfold uL A1 hO;dsimp only;rw[q];exact⟨rfl,rfl,rfl⟩
theorem Lr{es:I cw}{n:aK}(q:kZ es n=aa):uL es (.str n)=aw/\hO es n=aw:=by
 unfold uL hO;dsimp only;rw[q];exact⟨rfl,rfl⟩
theorem OB(es:I cw):∀nms:I aK,((nms.map V.str).filter (uL es)).map (A1 es)=(vy es nms).map fun(k:H)=>V.int k
 |[]=>rfl
 |n::nms=>by
  have bh:=OB es nms
  unfold vy at bh ⊢
  cases q:kZ es n with
  |none=>rw[eI,Q2 (by rw[(Lr q).1];decide),bh,List.filterMap_cons_none (by rw[q];rfl)]
  |some e=>rw[eI,Q3 (Al q).1,eI,bh,(Al q).2.1,List.filterMap_cons_some (by rw[q];rfl)];rfl
theorem abU(es:I cw)(n:aK):mE (es.map cw.b5) (.str n)=(kZ es n).isSome:=(bs Option.isSome (AN es n)).trans Rp
section
variable {σ:St}{C:Cl}{J:Loc}{es:I cw}{nms:I aK}{fB eN:H}
theorem L4{i j:H}{n:aK}{aF:St}{J:Loc}(hi:c2 J i=D (.str n))(cg:c2 J j=D (.obj fB))(hd:aF[fB]?=D (.dict .s (es.map cw.b5))):aG PP C (.ay .mem (.aq i) (.aq j)) J aF=D (.bool (kZ es n).isSome,aF):=gc (bF hi) (bF cg) ((FJ hd rfl).trans (bs D (abU es n)))
theorem PL{i j:H}{n:aK}{e:cw}{k:O}{aF:St}{J:Loc}{v:V}(hi:c2 J i=D (.str n))(cg:c2 J j=D (.obj fB))(hd:aF[fB]?=D (.dict .s (es.map cw.b5)))(he:kZ es n=D e)(aH:ee aF (.ab [.int e.mask,.bool e.closed,.bool e.hidden]) (.int k)=D v):aG PP C (.sub (.sub (.aq j) (.aq i)) (.lit (.int k))) J aF=D (v,aF):=lg (lg (bF cg) (bF hi) (G2 hd rfl (abS he))) cE aH
theorem FA{l:I V}(h:l.length<=4):([]:I V).length+l.length < a4:=c9 (cp (gb (g7 _)) h) (by decide)
theorem Fx{d:H}{l:I V}(h:σ[d]?=D (.list l))(t:St):eQ σ (.obj d) (σ++t)=ae:=by
 unfold eQ;dsimp only;rw[h,e4 h];exact cW rfl
theorem ae6(ef:c2 J 5=D (.obj fB))(hy:c2 J 7=D (.obj eN))(aj:26 < J.length)(sA:σ[fB]?=D (.dict .s (es.map cw.b5)))(q3:σ[eN]?=D (.list (nms.map .str)))(aZ:nms.length<=4):
  ∃cU,aG PP C (.comp (.sub (.sub (.aq 5) (.aq 26)) (.lit (.int 0))) 26 aw (.aq 7) (D (.ay .mem (.aq 26) (.aq 5)))) J σ=D (.obj σ.length,σ++ .list ((vy es nms).map fun(k:H)=>V.int k)::cU):=by
 obtain⟨cU,aE⟩:=sb (ck:=fun v aF=>gC PP C (D (.ay .mem (.aq 26) (.aq 5))) (J.set 26 (D v)) aF)
  (f:=fun v aF=>aG PP C (.sub (.sub (.aq 5) (.aq 26)) (.lit (.int 0))) (J.set 26 (D v)) aF)
  (live:=eQ σ (.obj eN)) (σ:=σ) (c:=uL es) (r:=A1 es) (nms.map .str) [] []
  (fun v aH t=>⟨[],by
   obtain⟨n,_,rfl⟩:=dk.mp aH
   rw[fi]
   exact av (L4 (oi aj) ((lE (by decide)).trans ef) (e4 sA)) rfl⟩)
  (fun v aH aE t=>⟨[],by
   obtain⟨n,_,rfl⟩:=dk.mp aH
   obtain⟨e,he⟩:=HN.mp aE
   rw[fi,(Al he).2.1]
   exact PL (oi aj) ((lE (by decide)).trans ef) (e4 sA) he rfl⟩)
  (Fx q3) (FA (by rw[d5];exact aZ))
 rw[qf,OB]at aE
 exact⟨cU,wN (y:= .obj eN) (aM:=σ) (vs:=nms.map .str) (bF hy) (sM q3) aE⟩
theorem agm(ef:c2 J 5=D (.obj fB))(hy:c2 J 7=D (.obj eN))(aj:27 < J.length)(sA:σ[fB]?=D (.dict .s (es.map cw.b5)))(q3:σ[eN]?=D (.list (nms.map .str)))(aZ:nms.length<=4):
  aG PP C (.comp (.and [.ay .mem (.aq 27) (.aq 5),.not (.sub (.sub (.aq 5) (.aq 27)) (.lit (.int 2)))]) 27 aw (.aq 7) aa) J σ=D (.obj σ.length,σ++ [.list (nms.map fun n=>V.bool (hO es n))]):=by
 have aE:=sc (ck:=fun v aF=>gC PP C aa (J.set 27 (D v)) aF)
  (f:=fun v aF=>aG PP C (.and [.ay .mem (.aq 27) (.aq 5),.not (.sub (.sub (.aq 5) (.aq 27)) (.lit (.int 2)))]) (J.set 27 (D v)) aF)
  (live:=eQ σ (.obj eN)) (σ:=σ) (r:=agl es) (nms.map .str) [] (fun v _ t=>rfl)
  (fun v aH t=>by
   obtain⟨n,_,rfl⟩:=dk.mp aH
   have e:=L4 (C:=C) (J:=J.set 27 (D (.str n))) (oi aj) ((lE (by decide)).trans ef) (e4 (g:=t) sA)
   show _=D (V.bool (hO es n),σ++t)
   cases he:kZ es n with
   |none=>
    rw[he]at e
    rw[(Lr he).2]
    exact zh e rfl
   |some en=>
    rw[he]at e
    rw[(Al he).2.2]
    exact zi e rfl (IW (FY (v:= .bool en.hidden) (PL (oi aj) ((lE (by decide)).trans ef) (e4 sA) he rfl) rfl)))
  (Fx q3) (FA (by rw[d5];exact aZ))
 rw[qf,iK]at aE
 exact wN (y:= .obj eN) (aM:=σ) (vs:=nms.map .str) (bF hy) (sM q3) aE
noncomputable def EC(M:O)(want:H)(nms:I aK)(reads:I H):au:=if M=2 then nms.isEmpty||reads.any (fun k=>decide (k &&& want >0))else reads.all (fun k=>decide (k &&& want=k))
noncomputable def ri(M:O)(nms:I aK)(seen:I au):au:=if M=2 then nms.isEmpty||seen.any id else seen.all id
noncomputable abbrev aag:KK.S:= .iff (.ay .eq (.aq 3) (.lit (.int 2))) [.set 20 (.or [.ay .eq (.aq 7) (.lst []),.any (.comp (.ay .gt (.bin .band (.aq 28) (.aq 19)) (.lit (.int 0))) 28 aw (.aq 17) aa)]),.set 21 (.or [.ay .eq (.aq 7) (.lst []),.any (.aq 18)])] [.set 20 (.all (.comp (.ay .eq (.bin .band (.aq 29) (.aq 19)) (.aq 29)) 29 aw (.aq 17) aa)),.set 21 (.all (.aq 18))]
theorem JA{i d:H}{x:E}{rds:I H}{p:H->au}(Ad:c2 J 17=D (.obj d))(hd:σ[d]?=D (.list (rds.map fun(k:H)=>V.int k)))(aZ:rds.length<=4)(aA:∀(k:H) (aF:St),aG PP C x (J.set i (D (.int k))) aF=D (.bool (p k),aF)):
  aG PP C (.comp x i aw (.aq 17) aa) J σ=D (.obj σ.length,σ++ [.list (rds.map fun k=>V.bool (p k))]):=by
 have aE:=sc (ck:=fun v aF=>gC PP C aa (J.set i (D v)) aF) (f:=fun v aF=>aG PP C x (J.set i (D v)) aF) (live:=eQ σ (.obj d)) (σ:=σ)
  (r:=fun v=>match v with|.int j=> .bool (p j.toNat)|_=> .none) (rds.map fun(k:H)=>V.int k) [] (fun v _ t=>rfl)
  (fun v aH t=>by
   obtain⟨k,_,rfl⟩:=dk.mp aH
   exact aA k _)
  (Fx hd) (FA (by rw[d5];exact aZ))
 rw[qf,iK]at aE
 exact wN (y:= .obj d) (aM:=σ) (vs:=rds.map fun(k:H)=>V.int k) (bF Ad) (sM hd) aE
theorem Dw:∀(l:I au),hc (l.map V.bool)=D l
 |[]=>rfl
 |a::l=>av (Dw l) rfl
theorem Oq:∀(l:I aK),V.fS (l.map .str)=ae
 |[]=>rfl
 |_::l=>Oq l
theorem Ko{aF:St}{J:Loc}(bR:c2 J 7=D (.obj eN))(hd:aF[eN]?=D (.list (nms.map .str))):aG PP C (.ay .eq (.aq 7) (.lst [])) J aF=D (.bool nms.isEmpty,aF):=by
 refine gc (bF bR) (AY zY) ?_
 show nT aF (.obj eN) (.lst [])=_
 unfold nT;dsimp only;rw[hd]
 refine(a7 (by rw[Oq];rfl)).trans ?_
 cases nms with
 |nil=>rfl
 |cons=>rfl
theorem Z7{M:O}{sf um want:H}{rds:I H}{sn:I au}(aN:c2 J 3=D (.int M))(hy:c2 J 7=D (.obj eN))(Ad:c2 J 17=D (.obj sf))(qY:c2 J 18=D (.obj um))(Lk:c2 J 19=D (.int want))(aj:29 < J.length)
  (q3:σ[eN]?=D (.list (nms.map .str))) (Lw:σ[sf]?=D (.list (rds.map fun(k:H)=>V.int k))) (Lx:σ[um]?=D (.list (sn.map V.bool))) (aZ:rds.length<=4):
  ∃cU,gI PP C aag J σ=D (.next,(J.set 20 (D (.bool (EC M want nms rds)))).set 21 (D (.bool (ri M nms sn))),σ++cU):=by
 refine cps fun G bV=> ?_
 unfold EC ri at bV
 have abX:28 < J.length:=qh aj
 by_cases q:M=2
 ·rw[a7 q,a7 q]at bV
  have eL:=JA (C:=C) (i:=28) (p:=fun k=>decide (k &&& want >0)) Ad Lw aZ (x:= .ay .gt (.bin .band (.aq 28) (.aq 19)) (.lit (.int 0))) fun k aF=>gc (kX (bF (oi abX)) (bF ((lE (by decide)).trans Lk)) wF) cE (bs D (kQ.mpr fv))
  have a1:=De eL (k4 fP) (pn rds fun k=>decide (k &&& want >0))
  rw[oX,show(rds.any (id ∘ fun k=>decide (k &&& want >0)))=rds.any fun k=>decide (k &&& want >0)from rfl]at a1
  have hg:=Ko (C:=C) hy q3
  have dy:∀ {t:St} {v:V},aG PP C (.or [.ay .eq (.aq 7) (.lst []),.any (.aq 18)]) (J.set 20 (D v)) (σ++t)=D (.bool (nms.isEmpty||sn.any id),σ++t):=fun{t v}=>N5 (Ko ((lE (by decide)).trans hy) (e4 q3)) (De (bF ((lE (by decide)).trans qY)) (k4 (e4 Lx)) (Dw sn))
  have fin:∀ {t:St},aG PP C (.or [.ay .eq (.aq 7) (.lst []),.any (.comp (.ay .gt (.bin .band (.aq 28) (.aq 19)) (.lit (.int 0))) 28 aw (.aq 17) aa)]) J σ=D (.bool (nms.isEmpty||rds.any fun k=>decide (k &&& want >0)),σ++t)->G:=fun{t} bu=>bV ⟨t,E0 (v:= .bool ae) (gc (bF aN) cE (eqT q)) rfl (de (et bu) (de (et dy) rfl))⟩
  cases z:nms.isEmpty with
  |true=>exact fin (t:=[]) (by rw[z]at hg ⊢;rw[fi];exact Ge hg rfl)
  |false=>exact fin (by rw[z]at hg ⊢;exact Gd hg rfl (N6 a1))
 ·rw[bz q,bz q]at bV
  have eL:=JA (C:=C) (i:=29) (p:=fun k=>decide (k &&& want=k)) Ad Lw aZ (x:= .ay .eq (.bin .band (.aq 29) (.aq 19)) (.aq 29)) fun k aF=>gc (kX (bF (oi aj)) (bF ((lE (by decide)).trans Lk)) wF) (bF (oi aj)) (bs D (kQ.mpr ⟨fM,fun h=>bs l3 h⟩))
  have a1:=IR eL (k4 fP) (pn rds fun k=>decide (k &&& want=k))
  rw[v4,show(rds.all (id ∘ fun k=>decide (k &&& want=k)))=rds.all fun k=>decide (k &&& want=k)from rfl]at a1
  exact bV ⟨_,L1 (v:= .bool aw) (gc (bF aN) cE (bf q)) rfl (de (et a1) (de (et (IR (bF ((lE (by decide)).trans qY)) (k4 (e4 Lx)) (Dw sn))) rfl))⟩
end
theorem hW.names{es:I cw}{ps:I fy}(h:hW es ps):ps.map (·.name)=es.map (·.name):=by
 induction h with
 |nil=>rfl
 |cons a _ bh=>exact congr (bs List.cons a.1) bh
theorem Xd{e:cw}{es:I cw}{n:aK}(q:e.name=n):hO (e::es) n= !e.hidden:=by
 unfold hO kZ;rw[ajU (p:=fun e:cw=>decide (e.name=n)) (cW q)]
theorem Xe{e:cw}{es:I cw}{n:aK}(q:e.name≠n):hO (e::es) n=hO es n:=by
 unfold hO kZ;rw[ajT (p:=fun e:cw=>decide (e.name=n)) (by rw[ek q];decide)]
theorem agn{es:I cw}{ps:I fy}(h:hW es ps):(es.map cw.name).Nodup->∀n,(hO es n=ae↔∃p∈ps,p.fl &&& 24=0/\p.name=n):=by
 induction h with
 |nil=>exact fun _ n=>⟨nofun,fun⟨_,h,_⟩=>nomatch h⟩
 |@cons e p es ps a bg bh=>
  intro cj n
  have cj:=hH.mp cj
  by_cases q:e.name=n
  ·rw[Xd q]
   refine⟨fun z=>⟨p,.head _,a.2.1.mpr (yA _▸z),a.1.trans q⟩,fun⟨fF,gN,gx,hF⟩=> ?_⟩
   rcases dj.mp gN with r|gN
   ·subst r;rw[a.2.1.mp gx];rfl
   ·have m:fF.name∈ps.map (·.name):=rT gN
    rw[bg.names,hF,<-q]at m
    exact absurd m cj.1
  ·rw[Xe q]
   refine(bh cj.2 n).trans ⟨fun⟨fF,gN,z⟩=>⟨fF,.tail _ gN,z⟩,fun⟨fF,gN,gx,hF⟩=> ?_⟩
   rcases dj.mp gN with r|gN
   ·exact absurd (a.1.symm.trans (r▸hF)) q
   ·exact⟨fF,gN,gx,hF⟩
theorem Wk{es:I cw}{ps:I fy}(h:hW es ps):(ps.any fun p=>decide (p.fl &&& 2≠0))=es.any (·.closed):=by
 induction h with
 |nil=>rfl
 |@cons e p es ps a _ bh=>exact congr (bs or (yz.mpr (R1.trans a.2.2))) bh
theorem abK{T:ak}{M:O}{l ns:I H}{nms:I aK}{es:I cw}{ps:I fy}(aZ:T.rows.Nodup)(ok:hW es ps)(cj:(es.map cw.name).Nodup)(aj:∀x,x∈l↔∃n∈nms,T.rows[x]?=D (eX n))(ib:∀n∈nms,∃x:H,T.rows[x]?=D (eX n))
  (hm:∀x,x∈ns↔∃p∈ps,p.fl &&& 24=0/\T.rows[x]?=D (eX p.name)):iV M l ns=ri M nms (nms.map (hO es)):=by
 have B7:∀ {x n},T.rows[x]?=D (eX n)->(x∈ns↔hO es n=ae):=fun{x n} aA=>(hm x).trans (Hy ⟨fun⟨p,ao,gx,hF⟩=>⟨p,ao,gx,(PB (bD (aA.symm.trans hF))).symm⟩,fun⟨p,ao,gx,hF⟩=>⟨p,ao,gx,hF▸aA⟩⟩ (agn ok cj n).symm)
 have he:l.isEmpty=nms.isEmpty:=by
  cases nms with
  |nil=>cases l with
   |nil=>rfl
   |cons x r=>have ⟨n,h,_⟩:=(aj x).mp (.head _);exact nomatch h
  |cons n r=>cases l with
   |nil=>have ⟨x,aA⟩:=ib n (.head _);exact nomatch (aj x).mpr ⟨n,.head _,aA⟩
   |cons=>rfl
 have aI:l.any (fun x=>decide (x∈ns))=(nms.map (hO es)).any id:=by
  rw[oX]
  exact yz.mpr (mR.trans (Hy ⟨fun⟨x,aA,z⟩=>have ⟨n,gM,e⟩:=(aj x).mp aA;⟨n,gM,(B7 e).mp (gy z)⟩,fun⟨n,gM,z⟩=>have ⟨x,aA⟩:=ib n gM;⟨x,(aj x).mpr ⟨n,gM,aA⟩,cW ((B7 aA).mpr z)⟩⟩ mR.symm))
 have ax:l.all (fun x=>decide (x∈ns))=(nms.map (hO es)).all id:=by
  rw[v4]
  exact yz.mpr (ke.trans (Hy ⟨fun z n gM=>have ⟨x,aA⟩:=ib n gM;(B7 aA).mp (gy (z x ((aj x).mpr ⟨n,gM,aA⟩))),fun z x aA=>have ⟨n,gM,e⟩:=(aj x).mp aA;cW ((B7 e).mpr (z n gM))⟩ ke.symm))
 unfold iV ri
 rw[he,aI,ax]
theorem I6{d c:H}(hd:d<=2)(aE:c<=5+5 * d+4 * d * d):c<=50/\3+d<=6:=nA (p:=fun d=>d<=2->c<=5+5 * d+4 * d * d->c<=50/\3+d<=6) (fun _ h=>⟨cp h (by decide),by decide⟩) (fun _ h=>⟨cp h (by decide),by decide⟩) (fun _ h=>⟨cp h (by decide),by decide⟩) (fun h=>absurd h (by decide)) d (c9 hd (by decide)) hd aE
theorem Ue{T:ak}{M:O}{S:I (V×V)}{over d:H}{l:I H}{nms:I aK}{es:I cw}{o:cX}(e5:kk T over l d)(hd:d<=2)(hN:l.length<=4)(aj:∀x,x∈l↔∃n∈nms,T.rows[x]?=D (eX n))(ib:∀n∈nms,∃x:H,T.rows[x]?=D (eX n))(ok:hW es o.props)(cj:(es.map cw.name).Nodup):
  mV T M S over o (ri M nms (nms.map (hO es))):=fun aB u ns le a8 aZ n lN hP hm=>by
 obtain⟨c,aE,e⟩:=IY (M:=M) (S:=S) a8 (e5.le le) hN n lN
 have ku:∀x,x∈l↔∃n∈nms,aB.rows[x]?=D (eX n):=fun x=>(aj x).trans ⟨fun⟨n,a,b⟩=>⟨n,a,le.row b⟩,fun⟨n,a,b⟩=>have ⟨y,bo⟩:=ib n a;⟨n,a,mJ aZ b (le.row bo)▸bo⟩⟩
 rw[abK aZ ok cj ku (fun n gM=>have ⟨x,aA⟩:=ib n gM;⟨x,le.row aA⟩) hm]at e
 exact⟨c,(I6 hd aE).1,qD (I6 hd aE).2 e⟩
theorem W4(ro:O)(o:cX):jR (nb ro o)=nb ro o:=by
 unfold nb
 by_cases a:ro=1
 ·rw[a7 a];rfl
 ·rw[bz a]
  cases(o.props.any fun p=>decide (p.fl &&& 2≠0)) <;>rfl
theorem JR:∀(es:I cw),rH 1 ((es.map cw.b5).map (·.2))=D (es.map fun e=>V.bool e.closed)
 |[]=>rfl
 |e::es=>av (a:=V.bool e.closed) rfl (av (JR es) rfl)
section
variable {xs:I O}{M:O}{T aB:ak}{S:I (V×V)}{A:bw}{R:be}{at_ g m n:H}{σ af aC:St}
theorem W3{C:Cl}{J:Loc}{ro:O}{fB:H}{es:I cw}{o:cX}(ef:c2 J 5=D (.obj fB))(w6:c2 J 14=D (.int ro))(aj:22 < J.length)(sA:σ[fB]?=D (.dict .s (es.map cw.b5)))(ok:hW es o.props)(b1:es.length<=4):
  ∃t,cQ PP C [.set 22 (.lst []),.iff (.ay .ne (.aq 14) (.lit (.int 1))) [.set 22 (.bin .add (.lst [.lit (.int 3)]) (.ite (.any (.m8 5 1)) (.lst [.lit (.int 4)]) (.lst [])))] []] J σ=D (.next,J.set 22 (D (.lst ((nb ro o).map .int))),σ++t):=by
 refine cps fun G bV=> ?_
 have K4:c2 (J.set 22 (D (.lst []))) 14=D (.int ro):=(lE (by decide)).trans w6
 by_cases q:ro=1
 ·exact bV ⟨[],by rw[Kl q,fi];exact de (et (AY zY)) (de (L1 (v:= .bool aw) (gc (bF K4) cE (k7 q)) rfl rfl) rfl)⟩
 ·have gf:aG PP C (.m8 5 1) (J.set 22 (D (.lst []))) σ=D (.obj σ.length,σ++ [.list (es.map fun e=>V.bool e.closed)]):=by
   have hz:(es.map fun e=>V.bool e.closed).length<=a4/\(hc (es.map fun e=>V.bool e.closed)).isSome=ae:=⟨cp (cp (gb (d5 _)) b1) (by decide),by rw[pn];rfl⟩
   exact av (o:=c2 (J.set 22 (D (.lst []))) 5) ((lE (by decide)).trans ef) (by dsimp only;rw[sA];exact av (JR es) (a7 hz))
  have an:=De gf (k4 fP) (pn es (·.closed))
  rw[oX,show es.any (id ∘ fun e=>e.closed)=es.any (·.closed)from rfl]at an
  exact bV ⟨[.list (es.map fun e=>V.bool e.closed)],by
   rw[DS q (Wk ok)]
   refine de (et (AY zY)) (de (E0 (v:= .bool ae) (gc (bF K4) cE (neT q)) rfl (de (et (kX (AY (jT cE)) (Mk an rfl rfl) (x:= .lst (([3]++if es.any (·.closed)then [4]else []:I O).map .int)) ?_)) rfl)) (by rw[Cq];rfl))
   cases es.any (·.closed) <;>rfl⟩
inductive Tk(xs:I O)(M:O)(T:ak)(S:I (V×V))(A:bw)(R:be)(at_ g m goal mem:H)(opt:O)(dM:au)(σ:St):Prop
 |mk (aC:St) (want:H) (du:ak) (fp:O) (rw:I V) (hw:ph m opt goal σ want aC) (w:World xs M du S A R at_ g aC) (l:T.bJ du) (aI:∃c,c<=50/\cy du M S 6 mem want=D (dM,c)) (z0:du.rows[want]?=D (.ab (.int fp::rw))) (am:fp∈ [(1:O),3,4,6]) (ne:mem≠want) (jt:want≠13)
noncomputable def ud(xs:I O)(M:O)(T0:ak)(S:I (V×V))(at_ goal mem:H)(opt:O)(dM:au):Prop:=∀(m:H) (T:ak) (A:bw) (R:be) (g:H) (σ:St),T0.bJ T->World xs M T S A R at_ (g+1) σ->Tk xs M T S A R at_ g m goal mem opt dM σ
theorem QB{T:ak}(h:cP T):T.rows[0]?=D (.ab [.int 1,.str ⟨#[97,110,121]⟩]):=h.first 0 (by decide)
theorem aiU{T0:ak}{mem:H}{rest:I V}{opt:O}(em:T0.rows[mem]?=D (.ab (.int 15::rest))):ud xs M T0 S at_ 0 mem opt ae:=fun m T A R g σ le w=>by
 have a8:=w.inv.a8
 have e:=le.row em
 have b:=a8.big e (by decide)
 have hg:=QB a8
 have aI:∃c,c<=50/\cy T M S 6 mem 0=D (ae,c):=⟨0,by decide,TJ a8 (gg e) (hB b) (by decide)⟩
 by_cases aR:opt=1
 ·have Hg:=aiF (m:=m+55) (pv:= .ab [.int 0,.int 4]) (ts:=[0,4]) (pf:=fun z=> [(z:O)]) (ks:=[0,4]) w.inv.tab w.ny rfl (fun _=>rfl) (cK.mpr ⟨.one hg (by decide) (by decide) (by decide),cK.mpr ⟨KZ a8,nofun⟩⟩) rfl (by decide) (.head _)
  exact⟨_,0,T,1,_,.more aR w.inv.host (run (m+59) 15 [.obj 2,.int (0:H)] σ Hg),(w.more _).less (eJ g),ak.bJ.refl T,aI,hg,.head _,gu b (by decide),by decide⟩
 ·exact⟨σ,0,T,1,_,.same aR,w.less (eJ g),ak.bJ.refl T,aI,hg,.head _,gu b (by decide),by decide⟩
theorem aiV{T0:ak}{mem u:H}{rest:I V}{opt:O}{l:I H}(em:T0.rows[mem]?=D (.ab (.int 15::rest)))(cd:T0.rows[u]?=D (.ab [.int 6,.ab ((cA l).map .int)]))(aj:l=[mem,5]\/l=[5,mem]):ud xs M T0 S at_ u mem opt ae:=fun m T A R g σ le w=>by
 refine cps fun G bV=> ?_
 have fin:∀ {du:ak} {aC:St} {fK:H} {cL:I H},ph m opt u σ fK aC->World xs M du S A R at_ g aC->T.bJ du->du.rows[fK]?=D (.ab [.int 6,.ab ((cA cL).map .int)])->mem∈cL->(∀x∈cL,x < a4)->G:=by
  intro du aC fK cL hw a9 mG nd lM lt
  have a8:=a9.inv.a8
  have e:=gg ((le.trans mG).row em)
  have lG:=AI nd lt
  have b:=hB (a8.big ((le.trans mG).row em) (by decide))
  have j2:=AW a8 (mD lG)
  have cc:=pN e (mD lG) (by decide)
  exact bV ⟨aC,fK,du,6,_,hw,a9,mG,⟨1,by decide,IX e lG lM cc b j2 (by decide) (by decide)⟩,nd,by decide,cc,(nz j2).2.2.2⟩
 have a8:=w.inv.a8
 have e:=le.row em
 have nd:=le.row cd
 obtain⟨lG,jp,Np,xH,len⟩:=Fg a8 nd aj e (vi a8)
 have b:=a8.big e (by decide)
 by_cases aR:opt=1
 ·have no:∀y∈ [6,7],y∉l++ [4]:=fun y bo q=>by
   rcases l4.mp q with r|r
   ·exact absurd (jp (p:=fun x=>16<=x\/x=5) (.inl b) (.inr rfl) y r) ((by decide:∀y∈ [6,7],¬(16<=y\/y=5)) y bo)
   ·exact absurd (dt.mp r) ((by decide:∀y∈ [6,7],y≠4) y bo)
  obtain⟨af,vM,aB,eP,fK,eu,eG,nQ,nR,jE,oP,_⟩:=World.undef (m:=m+55) w (t:=u) (ps:=l) (.union nd (fun q=>by
    have:=mD lG
    rw[q]at this
    exact absurd (bD (this.symm.trans a8.oz)) (by decide)) (a8.lt nd)) (by rw[len];decide) (jp (Jt a8 e (by decide)) (KU a8)) (.inl ⟨no 6 (by decide),no 7 (by decide)⟩)
  have lM:mem∈eP:=(jE mem).mpr (tS _ Np)
  have pQ:5∈eP:=(jE 5).mpr (tS _ xH)
  have EY:aB.rows[vM]?=D (.ab [.int 6,.ab ((cA eP).map .int)]):=by
   rcases nQ with⟨q,_⟩|q|⟨_,q⟩
   ·rw[q]at lM;exact nomatch lM
   ·rw[q]at lM pQ
    exact absurd ((dt.mp lM).trans (dt.mp pQ).symm) (gu b (by decide))
   ·exact q
  exact fin (.more aR w.inv.host fK) eu eG EY lM fun x aA=>by
   rcases l4.mp ((jE x).mp aA)with r|r
   ·exact jp (p:=fun x=>x < a4) (a8.lt e) (by decide) x r
   ·rw[dt.mp r];decide
 ·exact fin (.same aR) (w.less (eJ g)) (ak.bJ.refl T) nd Np (jp (a8.lt e) (by decide))
end
theorem zu:∀mask,mask < 32->∀i,i < 5->h1 (mask|||16) i=(h1 mask i||decide (i=4)):=by decide
theorem Dv:∀mask,mask < 32->0 < mask->∃i,i < 5/\h1 mask i=ae:=by decide
noncomputable def i2(opt:O)(mask:H):H:=if opt=1 then mask|||16 else mask
theorem Qv{mask:H}{opt:O}(h:mask < 32)(h0:0 < mask):∃i,i < 5/\h1 (i2 opt mask) i=ae:=by
 unfold i2;split
 ·exact⟨4,by decide,(zu mask h 4 (by decide)).trans (Hu _)⟩
 ·exact Dv mask h h0
noncomputable def qs(T:ak)(mask:H):Prop:=∀i,i < 5->h1 mask i=ae->∃x:H,T.rows[x]?=D (fZ i)
theorem qs.le{T aB:ak}(h:T.bJ aB){mask:H}(k:qs T mask):qs aB mask:=fun i hi ax=>have ⟨x,e⟩:=k i hi ax;⟨x,h.row e⟩
theorem md.ne{T:ak}{mask:H}{l:I H}(ks:md T mask l)(aA:qs T mask)(h:∃i,i < 5/\h1 mask i=ae):l≠ []:=fun q=>
 have ⟨i,hi,ax⟩:=h
 have ⟨x,e⟩:=aA i hi ax
 nomatch q▸(ks x).mpr ⟨i,hi,ax,e⟩
theorem FC{T:ak}(b8:cP T)(aZ:T.rows.Nodup){i x:H}(hi:i < 5)(h:T.rows[x]?=D (fZ i)):ie x=aw/\(x=4\/x=5\/x=6\/x=7\/16<=x)/\x∉ [6,7]:=by
 rcases xu b8 aZ hi h with b|b|b
 ·exact⟨hB b.1,.inr (.inr (.inr (.inr b.1))),fun q=>absurd b.1 ((by decide:∀x∈ [6,7],¬16<=x) x q)⟩
 ·rw[b.1];decide
 ·rw[b.1];decide
theorem u0{k:O}(h:k∈ [(1:O),3,4]):k≠2/\k≠8/\k≠6/\k≠15/\k∈ [(1:O),3,4,6]:=(by decide:∀k∈ [(1:O),3,4],k≠2/\k≠8/\k≠6/\k≠15/\k∈ [(1:O),3,4,6]) k h
inductive Ik(T:ak)(u:H)(l:I H):Prop
 |mk (k:O) (rest:I V) (e:T.rows[u]?=D (.ab (.int k::rest))) (am:k∈ [(1:O),3,4,6]) (j2:ie u=aw) (p:gY T u (cA l)) (iA:k=6->iA T u=D l)
theorem AK{T:ak}(b8:cP T)(aZ:T.rows.Nodup){u mask:H}{l:I H}(hQ:jl T u l)(ks:md T mask l)(ne:l≠ []):Ik T u l:=by
 rcases hQ with⟨q,_⟩|q|⟨ah,q⟩
 ·exact absurd q ne
 ·subst q
  obtain⟨i,hi,_,e⟩:=(ks u).mp (.head _)
  obtain⟨k,rest,gB,am⟩:=xv hi e
  obtain⟨_,_,rg,_,pM⟩:=u0 am
  have j2:=(FC b8 aZ hi e).1
  exact⟨k,rest,gB,pM,j2,vm b8 gB rg (nz j2).2.2.1,fun z=>absurd z rg⟩
 ·have dy:iA T u=D l:=AI q fun x aA=>have ⟨i,hi,_,e⟩:=(ks x).mp aA;b8.lt e
  have j2:=AW b8 (mD dy)
  exact⟨6,_,q,by decide,j2,.union q (nz j2).2.2.1 (b8.lt q),fun _=>dy⟩
section
variable {xs:I O}{M:O}{T aB:ak}{S:I (V×V)}{A:bw}{R:be}{at_ g m n:H}{σ af aC:St}
theorem O4{mem jx mask:H}{rest:I V}{l:I H}{b:au}(a8:cP T)(cj:T.rows.Nodup)(em:T.rows[mem]?=D (.ab (.int 15::rest)))(ks:md T mask l)(aY:lV S mem jx=D (b,0)):Ik T jx l->cy T M S (n+1) mem jx=D (b,0)
 |⟨k,r,gB,am,j2,_,aah⟩=>
  have ⟨ag,ah,aN⟩:=(by decide:∀k∈ [(1:O),3,4,6],gG k=aw/\¬hf k/\(15:O)≠k) k am
  TL (gg em) (gg gB) (pN (gg em) (gg gB) aN) (hB (a8.big em (by decide))) (.inl j2) ag ah (fun q=>⟨l,aah q,fun ew=>
   have ⟨i,hi,_,hx⟩:=(ks mem).mp ew
   have ⟨k,r,bZ,xg⟩:=xv hi hx
   (u0 xg).2.2.2.1 (sN bZ em)⟩) aY
theorem aiW{T0:ak}{mem goal jx mask:H}{rest:I V}{opt:O}{lk u7:I H}{b:au}(em:T0.rows[mem]?=D (.ab (.int 15::rest)))(h0:0 < mask)(w7:mask < 32)(aZ:T0.rows.Nodup)
  (hQ:jl T0 goal lk) (hP:lk.Pairwise (· < ·)) (len:lk.length<=5) (ks:md T0 mask lk) (aA:qs T0 mask)
  (vQ:jl T0 jx u7) (BL:u7.Pairwise (· < ·)) (oB:md T0 (i2 opt mask) u7) (pL:qs T0 (i2 opt mask))
  (aY:lV S mem jx=D (b,0)):ud xs M T0 S at_ goal mem opt b:=fun m T A R g σ le w=>by
 refine cps fun G bV=> ?_
 have fin:∀ {du:ak} {aC:St},ph m opt goal σ jx aC->World xs M du S A R at_ g aC->T.bJ du->G:=by
  intro du aC hw a9 mG
  have u5:=le.trans mG
  have aT:=u5.row em
  have dG:=oB.le u5 a9.inv.tab.nodup pL
  have hk:=AK a9.inv.a8 a9.inv.tab.nodup (vQ.le u5) dG (dG.ne (pL.le u5) (Qv w7 h0))
  have an:=O4 (M:=M) (n:=5) a9.inv.a8 a9.inv.tab.nodup aT dG aY hk
  obtain⟨fp,rw,gB,am,j2,_,_⟩:=hk
  exact bV ⟨aC,jx,du,fp,rw,hw,a9,mG,⟨0,by decide,an⟩,gB,am,pN (gg aT) (gg gB) ((by decide:∀k∈ [(1:O),3,4,6],(15:O)≠k) fp am),(nz j2).2.2.2⟩
 by_cases aR:opt=1
 ·rw[show i2 opt mask=mask|||16 from a7 aR]at oB pL
  have a8:=w.inv.a8
  have cj:=w.inv.tab.nodup
  have jw:=ks.le le cj aA
  obtain⟨uZ,x1,jq,bR,_,vr,_⟩:=AK a8 cj (hQ.le le) jw (jw.ne (aA.le le) (Dv mask w7 h0))
  have unit:∀ {x},x∈lk->∃i,i < 5/\T.rows[x]?=D (fZ i):=fun h=>have ⟨i,hi,_,hx⟩:=(jw _).mp h;⟨i,hi,hx⟩
  have e8:∀x∈lk++ [4],x∉ [6,7]:=fun x h=>(l4.mp h).elim (fun h=>have ⟨i,hi,hx⟩:=unit h;(FC a8 cj hi hx).2.2) fun h=>dt.mp h▸by decide
  obtain⟨af,vM,aB,eP,fK,eu,eG,nQ,nR,jE,oP,_⟩:=World.undef (m:=m+55) w (t:=goal) (ps:=lk) vr (c9 len (by decide)) (fun x h=>by
   obtain⟨i,hi,hx⟩:=unit h
   obtain⟨k,r,bZ,xg⟩:=xv hi hx
   obtain⟨cZ,abD,_⟩:=u0 xg
   exact⟨k,r,bZ,a8.good _ _ _ bZ cZ abD,(FC a8 cj hi hx).2.1⟩) (.inl ⟨fun q=>e8 6 q (.head _),fun q=>e8 7 q (.tail _ (.head _))⟩)
  have BY:=eu.inv.a8
  have A8:=eu.inv.tab.nodup
  have dG:=oB.le (le.trans eG) A8 pL
  have Mn:=jw.le eG A8 (aA.le le)
  obtain rfl:eP=u7:=yd nR BL fun x=>(jE x).trans (Hy ⟨fun h=>by
    rcases l4.mp h with h|h
    ·obtain⟨i,hi,ax,hx⟩:=(Mn x).mp h
     exact⟨i,hi,(zu mask w7 i hi).trans (by rw[ax];rfl),hx⟩
    ·rw[dt.mp h]
     exact⟨4,by decide,(zu mask w7 4 (by decide)).trans (Hu _),tI BY⟩,fun⟨i,hi,ax,hx⟩=>by
    rw[zu mask w7 i hi]at ax
    rcases QQ.mp ax with ax|ax
    ·exact tS _ ((Mn x).mpr ⟨i,hi,ax,hx⟩)
    ·rw[gy ax]at hx
     exact Re _ (dt.mpr (mJ A8 hx (tI BY)))⟩ (dG x).symm)
  obtain rfl:vM=jx:=nQ.one A8 (vQ.le (le.trans eG))
  exact fin (.more aR w.inv.host fK) eu eG
 ·rw[show i2 opt mask=mask from bz aR]at oB
  obtain rfl:lk=u7:=yd hP BL fun x=>(ks x).trans (oB x).symm
  obtain rfl:goal=jx:=hQ.one aZ vQ
  exact fin (.same aR) (w.less (eJ g)) (ak.bJ.refl T)
end
theorem tA(P:c4)(C:Cl)(s:KK.S)(J:Loc)(σ:St):DM P C s J σ fun f bt af=>gI P C s J σ=D (f,bt,af):=J2 s J σ _ fun _ _ _ h=>h
section
variable {P:c4}{C:Cl}{J:Loc}{σ:St}{i:H}{a b x:O}
theorem Wp(h:c2 J i=D (.int x))(ag:a < x)(ah:x < b):aG P C (.jo .lt .lt (.lit (.int a)) (.aq i) (.lit (.int b))) J σ=D (.bool ae,σ):=av rfl (av (av h rfl) (av (bs D (cW ag)) (av rfl (av (bs D (cW ah)) rfl))))
theorem Wo(h:c2 J i=D (.int x))(ag:¬a < x):aG P C (.jo .lt .lt (.lit (.int a)) (.aq i) (.lit (.int b))) J σ=D (.bool aw,σ):=av rfl (av (av h rfl) (av (bs D (ek ag)) rfl))
theorem Wn(h:c2 J i=D (.int x))(ag:a < x)(ah:¬x < b):aG P C (.jo .lt .lt (.lit (.int a)) (.aq i) (.lit (.int b))) J σ=D (.bool aw,σ):=av rfl (av (av h rfl) (av (bs D (cW ag)) (av rfl (av (bs D (ek ah)) rfl))))
end
theorem T2{a b c g:H}{l:O}(h:((a+b:H):O)<=l+(c:H)/\c<=100)(ah:l+(g:H)<=19000):a < a4:=by
 have dV:a4=1000000:=rfl
 omega
noncomputable def hr(M:O)(eC dS dT d3 v8 v9 v10 v11 fh dr d0 d1 ft d2 eA gU fI eB fL f8:aJ V):Loc:=[D (.obj 1),D (.obj 2),D (.obj 12),D (.int M),eC,dS,dT,d3,v8,v9,v10,v11,fh,dr,d0,d1,ft,d2,eA,gU,fI,eB,fL,f8,aa,aa,aa,aa,aa,aa]
noncomputable abbrev zB:KK.S:= .for 9 ae (.call 75 [.aq 0,.lit (.int 3)]) [.set 8 (.call 6 [.aq 1,.lit (.str ⟨#[75]⟩),.aq 8,.neg (.lit (.int 1))])]
noncomputable abbrev FG:KK.S:= .iff (.or [.ay .eq (.aq 12) (.lit (.int 0)),.ay .gt (.aq 12) (.lit (.int 31))]) [.set 16 (.ite (.ay .eq (.aq 12) (.lit (.int 33))) (.call 14 [.aq 1,.lst [.aq 11,.lit (.int 5)]]) (.lit (.int 0)))] []
noncomputable abbrev BG:KK.S:= .iff (.jo .lt .lt (.lit (.int 0)) (.aq 12) (.lit (.int 32))) [.fG (.attr (.aq 2) 37) (.ab [.aq 11,.call 76 [.aq 1,.aq 19]]) (.aq 20)] [.set 20 (.lit (.bool ae))]
inductive Sd(xs:I O)(M:O)(T:ak)(S:I (V×V))(A:bw)(R:be)(g m nG:H)(l:I H)(σ:St):Prop
 |mk (af:St) (aB:ak) (over d:H) (s9:aJ V) (at':H) (e:∀ {eC dS dT d3 v10 v11 fh dr d0 d1 ft d2 eA gU fI eB fL f8:aJ V},gI PP (az PP (m+4)) zB (hr M eC dS dT d3 (D (.int nG)) aa v10 v11 fh dr d0 d1 ft d2 eA gU fI eB fL f8) σ=D (.next,(hr M eC dS dT d3 (D (.int over)) s9 v10 v11 fh dr d0 d1 ft d2 eA gU fI eB fL f8),af))
  (w:World xs M aB S A R at' g af) (le:T.bJ aB) (e5:kk aB over l d) (hd:d<=2) (amk:0 < over) (F6:over < aB.rows.length) (s:bx fc σ af)
inductive y3(M:O)(T aB:ak)(goal0 goal mask mem:H)(opt:O):Prop
 |unit (h0:0 < mask) (ag:mask < 32) (bR:goal=goal0) (fa:aB=T)
 |e8 (h:¬(0 < mask/\mask < 32)) (uZ:O) (x1:I V) (jq:aB.rows[goal]?=D (.ab (.int uZ::x1))) (am:uZ≠15) (hw:∀(xs:I O) (S:I (V×V)) (at_:H),ud xs M aB S at_ goal mem opt ae)
inductive Sz(xs:I O)(M:O)(T:ak)(S:I (V×V))(A:bw)(R:be)(at_ g m mem mask goal0:H)(opt:O)(σ:St):Prop
 |mk (af:St) (aB:ak) (goal:H) (e:∀ {eC dS dT d3 v8 v9 v10 dr d0 d1 d2 eA gU fI eB fL f8:aJ V},gI PP (az PP (m+4)) FG (hr M eC dS dT d3 v8 v9 v10 (D (.int mem)) (D (.int mask)) dr d0 d1 (D (.int goal0)) d2 eA gU fI eB fL f8) σ=D (.next,(hr M eC dS dT d3 v8 v9 v10 (D (.int mem)) (D (.int mask)) dr d0 d1 (D (.int goal)) d2 eA gU fI eB fL f8),af)) (w:World xs M aB S A R at_ g af) (l:T.bJ aB) (s:bx fc σ af) (mg:y3 M T aB goal0 goal mask mem opt)
inductive Sw(xs:I O)(M:O)(T:ak)(S:I (V×V))(A:bw)(R:be)(at_ g m mem mask goal:H)(opt:O)(held0:au)(σ:St):Prop
 |mk (af:St) (aB:ak) (iu:I (V×V)) (R':be) (held:au) (bu:held=if 0 < mask/\mask < 32 then held0 else ae) (e:∀ {eC dS dT d3 v8 v9 v10 dr d0 d1 ft d2 eA eB fL f8:aJ V},gI PP (az PP (m+6)) BG (hr M eC dS dT d3 v8 v9 v10 (D (.int mem)) (D (.int mask)) dr d0 d1 ft d2 eA (D (.int (i2 opt mask:H))) (D (.bool held0)) eB fL f8) σ=D (.next,(hr M eC dS dT d3 v8 v9 v10 (D (.int mem)) (D (.int mask)) dr d0 d1 ft d2 eA (D (.int (i2 opt mask:H))) (D (.bool held)) eB fL f8),af))
  (w:World xs M aB iu A R' at_ g af) (l:T.bJ aB) (k:el R R') (ai:iu.length<=S.length+1) (Qw:ud xs M aB iu at_ goal mem opt held) (keep:∀d c,20 < d->σ[d]?=D c->af[d]?=D c)
section
variable {xs:I O}{M:O}{T aB:ak}{S:I (V×V)}{A:bw}{R:be}{at_ g m n:H}{σ af aC:St}
theorem World.Wg(h:World xs M T S A R at_ (g+4) σ){nG:H}{l:I H}(aY:kk T nG l 0)(h0:0 < nG)(aj:nG < T.rows.length):Sd xs M T S A R g m nG l σ:=by
 refine cps fun G bV=> ?_
 obtain⟨aC,x,tN,aT,a9,s1⟩:=World.hp (g:=g+3) (m:=m+3) h (n:=3) (by decide)
 obtain⟨bn,eK,cZ,aX,bE,ci,Pr,gR,bl,s2,amw⟩:=World.chain (g:=g+2) (m:=m+2) (name:= .str ⟨#[75]⟩) a9 aY h0 aj
 obtain⟨ct,iU,fY,bZ,cG,fJ,agW,kE,cF,s3,amx⟩:=World.chain (g:=g+1) (m:=m+2) (name:= .str ⟨#[75]⟩) bE Pr gR bl
 refine nA (p:=fun x=>x < 3->az PP (m+4) 75 [.obj 1,.int 3] σ=D (.int x,aC)->G) (fun _ aT=> ?_) (fun _ aT=> ?_) (fun _ aT=> ?_) (fun h=>absurd h (by decide)) x (nY tN) tN aT
 ·exact bV ⟨aC,T,nG,0,aa,_,fun{eC dS dT d3 v10 v11 fh dr d0 d1 ft d2 eA gU fI eB fL f8}=>(tA PP (az PP (m+4)) zB (hr M eC dS dT d3 (D (.int nG)) aa v10 v11 fh dr d0 d1 ft d2 eA gU fI eB fL f8) σ aT (show ii (.int 0)=D []from rfl)).2 rfl,a9.less (cn ..),ak.bJ.refl T,aY,by decide,h0,aj,s1⟩
 ·exact bV ⟨bn,eK,cZ,1,D (.int 0),_,fun{eC dS dT d3 v10 v11 fh dr d0 d1 ft d2 eA gU fI eB fL f8}=>(tA PP (az PP (m+4)) zB (hr M eC dS dT d3 (D (.int nG)) aa v10 v11 fh dr d0 d1 ft d2 eA gU fI eB fL f8) σ aT (show ii (.int 1)=D [.int 0]from rfl)).2 rfl aX rfl,bE.less (cn ..),ci,Pr,by decide,gR,bl,s1.trans s2⟩
 ·exact bV ⟨ct,iU,fY,2,D (.int 1),_,fun{eC dS dT d3 v10 v11 fh dr d0 d1 ft d2 eA gU fI eB fL f8}=>(tA PP (az PP (m+4)) zB (hr M eC dS dT d3 (D (.int nG)) aa v10 v11 fh dr d0 d1 ft d2 eA gU fI eB fL f8) σ aT (show ii (.int 2)=D [.int 0,.int 1]from rfl)).2 rfl aX rfl bZ rfl,cG.less (cn ..),ci.trans fJ,agW,by decide,kE,cF,(s1.trans s2).trans s3⟩
theorem World.act(h:World xs M T S A R at_ (g+1) σ){mem mask goal0:H}{opt:O}{rest:I V}(em:T.rows[mem]?=D (.ab (.int 15::rest))):Sz xs M T S A R at_ g m mem mask goal0 opt σ:=by
 refine cps fun G bV=> ?_
 have a8:=h.inv.a8
 have go:=fun{eC dS dT d3 v8 v9 v10 dr d0 d1 d2 eA gU fI eB fL f8:aJ V}=>tA PP (az PP (m+4)) FG (hr M eC dS dT d3 v8 v9 v10 (D (.int mem)) (D (.int mask)) dr d0 d1 (D (.int goal0)) d2 eA gU fI eB fL f8) σ
 by_cases q:0 < mask/\mask < 32
 ·exact bV ⟨σ,T,goal0,fun{eC dS dT d3 v8 v9 v10 dr d0 d1 d2 eA gU fI eB fL f8}=>go (bf (dB (rW q.1))) (Ab fun z=>mT.mpr (fv.mp z) q.2),h.less (eJ g),ak.bJ.refl T,bx.refl ..,.unit q.1 q.2 rfl rfl⟩
 ·by_cases xZ:mask=33
  ·obtain⟨aC,u,du,aT,a9,cL,_,_,_,s1,pr⟩:=World.yr (g:=g) (m:=m) h (BB a8 em (by decide)) (D9 a8) (fun _=>rfl)
   obtain⟨l,hQ,aj⟩:=pr (gu (a8.big em (by decide)) (by decide))
   exact bV ⟨aC,du,u,fun{eC dS dT d3 v8 v9 v10 dr d0 d1 d2 eA gU fI eB fL f8}=>go (bf (by rw[xZ];decide)) (Ac (by rw[xZ];decide)) (eqT (by rw[xZ];rfl)) aT,a9,cL,s1.dC (by decide),.e8 q _ _ hQ (by decide) fun xs S at_=>aiV (cL.row em) hQ aj⟩
  ·have fin:(∀ {eC dS dT d3 v8 v9 v10 dr d0 d1 d2 eA gU fI eB fL f8:aJ V},gI PP (az PP (m+4)) FG (hr M eC dS dT d3 v8 v9 v10 (D (.int mem)) (D (.int mask)) dr d0 d1 (D (.int goal0)) d2 eA gU fI eB fL f8) σ=D (.next,(hr M eC dS dT d3 v8 v9 v10 (D (.int mem)) (D (.int mask)) dr d0 d1 (D (.int (0:H))) d2 eA gU fI eB fL f8),σ))->G:=fun e=>bV ⟨σ,T,0,e,h.less (eJ g),ak.bJ.refl T,bx.refl ..,.e8 q _ _ (QB a8) (by decide) fun xs S at_=>aiU em⟩
   by_cases z:mask=0
   ·exact fin fun{eC dS dT d3 v8 v9 v10 dr d0 d1 d2 eA gU fI eB fL f8}=>go (eqT (bs l3 z)) (bf (dB xZ))
   ·exact fin fun{eC dS dT d3 v8 v9 v10 dr d0 d1 d2 eA gU fI eB fL f8}=>go (bf (dB z)) (Ac (fv.mpr (gm (by decide) (mT.mp fun y=>q ⟨Nat.pos_of_ne_zero z,y⟩)))) (bf (dB xZ))
theorem World.laid(h:World xs M T S A R at_ (g+6) σ){mem mask goal0 goal:H}{opt:O}{held0:au}{rest:I V}{lk:I H}{T0:ak}(em:T.rows[mem]?=D (.ab (.int 15::rest)))(kq:S.length < 100)
  (uP:∀t:H,mem≠t->cx R.bk (cB mem t)=aa/\cx S (cB mem t)=aa) (bR:y3 M T0 T goal0 goal mask mem opt) (hQ:jl T0 goal0 lk) (hP:lk.Pairwise (· < ·)) (len:lk.length<=5) (ks:md T0 mask lk) (aA:qs T0 mask):Sw xs M T S A R at_ g m mem mask goal opt held0 σ:=by
 refine cps fun G bV=> ?_
 cases bR with
 |unit ig a6 bR fa=>
  subst bR fa
  obtain⟨aC,jx,du,u7,aT,a9,cL,vQ,BL,oB,pL,s1,_,_⟩:=World.kind (g:=g) (m:=m+1) h (i2 opt mask)
  have iH:=a9.inv.a8
  have oD:=a9.inv.tab.nodup
  have zV:=cL.row em
  have hk:=AK iH oD vQ oB (oB.ne pL (Qv a6 ig))
  have cc:mem≠jx:=by
   obtain⟨fp,afo,gB,am,_⟩:=hk
   exact pN (gg zV) (gg gB) ((by decide:∀k∈ [(1:O),3,4,6],(15:O)≠k) fp am)
  obtain⟨dG,cZ⟩:=uP jx cc
  have O1:lV (dI S (cB mem jx) (.bool held0)) mem jx=D (held0,0):=by
   unfold lV;rw[nx,a7 rfl]
  have bE:=World.agj (b:=held0) a9 dG cZ (gh zV) kq ⟨1,O4 (n:=0) iH oD zV oB O1 hk⟩
  have AL:=a9.inv.rel.bk
  have Av:=a9.inst.2.2.1
  have AZ:R.bk.length < a4:=T2 a9.inv.size a9.room.jA
  refine bV ⟨_,du,_,_,held0,by rw[a7 ⟨ig,a6⟩],fun{eC dS dT d3 v8 v9 v10 dr d0 d1 ft d2 eA eB fL f8}=> ?_,bE,cL,⟨rfl,rfl,rfl⟩,u2 S (cB mem jx) (.bool held0),aiW zV ig a6 oD (hQ.le cL) hP len (ks.le cL oD aA) (aA.le cL) vQ BL oB pL O1,fun d c hd aE=>c6 (s1.get aE (lK hd)) fun z=>absurd hd (by rw[<-z];decide)⟩
  have go:=(tA PP (az PP (m+6)) BG (hr M eC dS dT d3 v8 v9 v10 (D (.int mem)) (D (.int mask)) dr d0 d1 ft d2 eA (D (.int (i2 opt mask:H))) (D (.bool held0)) eB fL f8) σ (Wp rfl (fv.mpr ig) (fv.mpr a6)) h.dJ aT).1 AL (ei.mpr ⟨rh mem jx,cW AZ⟩)
  rw[Av]at go
  exact go
 |e8 q uZ x1 jq am hw=>
  refine bV ⟨σ,T,S,R,ae,by rw[bz q],fun{eC dS dT d3 v8 v9 v10 dr d0 d1 ft d2 eA eB fL f8}=> ?_,h.less (cn ..),ak.bJ.refl T,el.refl R,eJ _,hw xs S at_,fun d c _ aE=>aE⟩
  by_cases z:0 < mask
  ·exact tA PP (az PP (m+6)) BG (hr M eC dS dT d3 v8 v9 v10 (D (.int mem)) (D (.int mask)) dr d0 d1 ft d2 eA (D (.int (i2 opt mask:H))) (D (.bool held0)) eB fL f8) σ (Wn rfl (fv.mpr z) fun y=>q ⟨z,fv.mp y⟩)
  ·exact tA PP (az PP (m+6)) BG (hr M eC dS dT d3 v8 v9 v10 (D (.int mem)) (D (.int mask)) dr d0 d1 ft d2 eA (D (.int (i2 opt mask:H))) (D (.bool held0)) eB fL f8) σ (Wo rfl fun y=>z (fv.mp y))
end
noncomputable def tM(held pO:au)(opt:O)(b:au):au:=held && (pO && (decide (opt < 2) && !b))
noncomputable def vn:H->O
 |1=>1
 |3=>2
 |_=>0
theorem ad3{σ:St}{y:H}(h:y < 4):ee σ (.ab [.int 0,.int 1,.int 0,.int 2]) (.int y)=D (.int (vn y))/\(vn y=2\/vn y < 2):=nA (p:=fun y=>ee σ (.ab [.int 0,.int 1,.int 0,.int 2]) (.int y)=D (.int (vn y))/\(vn y=2\/vn y < 2)) ⟨rfl,.inr (by decide)⟩ ⟨rfl,.inr (by decide)⟩ ⟨rfl,.inr (by decide)⟩ ⟨rfl,.inl rfl⟩ y h
inductive SF(xs:I O)(M:O)(T:ak)(S:I (V×V))(A:bw)(R:be)(at_ g:H)(C:Cl)(x:E)(J:Loc)(c:Cell)(σ:St):Prop
 |mk (af:St) (d:H) (e:aG PP C x J σ=D (.obj d,af)) (w:World xs M T S A R at_ g af) (c:af[d]?=D c) (s:bx fc σ af) (low:20 < d)
inductive Tl(xs:I O)(M:O)(T:ak)(S:I (V×V))(R:be)(g m f:H)(args:I V)(σ:St):Prop
 |mk (af:St) (aB:ak) (iu:I (V×V)) (A':bw) (R':be) (at':H) (e:az PP m f args σ=D (.bool ae,af)) (w:World xs M aB iu A' R' at' g af) (l:T.bJ aB) (bO:R'.df=R.df) (wt:R'.at_=R.at_) (ai:iu.length<=S.length+1)
section
variable {xs:I O}{M:O}{T aB:ak}{S:I (V×V)}{A:bw}{R:be}{at_ g m n:H}{σ af aC:St}
theorem World.FP(h:World xs M T S A R at_ g σ){C:Cl}{x:E}{J:Loc}{c:Cell}:(∃cU,aG PP C x J σ=D (.obj σ.length,σ++c::cU))->SF xs M T S A R at_ g C x J c σ
 |⟨_,e⟩=>⟨_,_,e,h.more _,qV,bx.append,h.ny⟩
theorem W5(ro:O)(o:cX):(nb ro o).length < 40:=by
 unfold nb
 split
 ·decide
 ·cases(o.props.any fun p=>decide (p.fl &&& 2≠0)) <;>decide
theorem iR.kind{T:ak}(b8:cP T){s:H}{l:I H}(h:iR T s l):0 < s/\∃k,KK.aW T s=D k/\k≠14/\k≠7:=by
 rcases h.aW b8 with⟨q,am,_⟩|⟨b,am,_⟩|⟨b,am,_⟩
 ·exact⟨by rw[q];decide,1,am,by decide,by decide⟩
 ·exact⟨gm (by decide) b,3,am,by decide,by decide⟩
 ·exact⟨gm (by decide) b,6,am,by decide,by decide⟩
theorem kk.aW{T:ak}(b8:cP T){s d:H}{l:I H}(h:kk T s l d):∃k rest,T.rows[s]?=D (.ab (.int k::rest))/\k≠14/\k≠7:=by
 cases h with
 |names aZ=>exact have ⟨_,k,am,h⟩:=aZ.kind b8;have ⟨r,e⟩:=iY am;⟨k,r,e,h⟩
 |param ax _ _ _=>exact have ⟨r,e⟩:=iY (xX ax);⟨_,r,e,by decide,by decide⟩
theorem ah9{T0:ak}{s i P mem pid over goal:H}{o:cX}{nm opt ro:O}{b held pO:au}(ag:b=ae->0<=nm)(ah:b=aw->nm < 0)(rA:gq T0 s i o)(aj:o.props.length<=3)(cc:o.props≠ [])(adK:o.row.pure=ae)
  (ko:T0.rows[P]?=D (.ab [.int 10,.int pid])) (em:T0.rows[mem]?=D (gD s P)) (mw:∀aB,T0.bJ aB->mV aB M S over o pO) (hw:ud xs M T0 S at_ goal mem opt held) (bR:T0.rows[goal]?≠D (gD s P)) (hh:∃k rest,T0.rows[over]?=D (.ab (.int k::rest))/\k≠14/\k≠7) (aR:opt=2\/opt < 2):
  za xs M T0 S at_ s (ez pid over nm goal opt ro) (tM held pO opt b) (if tM held pO opt b then nb ro o else []):=by
 intro m a T A R g σ le c5 w
 refine cps fun G bV=> ?_
 have GO:=rA.le le
 obtain⟨k,rest,gB,am⟩:=GO.aW
 have Ey:a= .ab (.int k::rest):=bD (c5.symm.trans gB)
 have adG:o.empty=aw:=ek fun q=>cc (aj5.mp (V.ab.inj (ej q).1))
 have ni:∀m σ,az PP (m+1) 67 [a] σ=D (.bool aw,σ):=fun m σ=>by
  cases GO with
  |obj e=>rw[bD (c5.symm.trans e),<-adG];exact Kp adK
  |ref e _ _ _=>rw[bD (c5.symm.trans e)];exact Kq (by decide)
 have aZ:(decide (opt=1) && (aw && decide (M≠4)))=aw:=l2 _
 have no:tM held pO opt b=aw->0<=nm\/opt=2->G:=fun e r=>by
  rw[e]at bV;exact bV ⟨σ,T,A,R,w.PY (m:=m+60) Ey am ni aZ r,w.less (cn ..),ak.bJ.refl T,(el.refl R).nil⟩
 cases b with
 |true=>exact no (by unfold tM;rw[yB,l2,l2,l2]) (.inl (ag rfl))
 |false=>
  rcases aR with q|q
  ·exact no (by unfold tM;rw[q,show decide ((2:O) < 2)=aw from rfl,ajG,l2,l2]) (.inr q)
  ·rw[show tM held pO opt aw=(held && pO)from by unfold tM;rw[cW q,ajJ,ajE,v0]]at bV
   have s2:s≠2:=pN (gg gB) w.inv.a8.oz (oE am (by decide))
   have vd:az PP (m+61) 65 [.obj 12,.int s,ez pid over nm goal opt ro] σ=D (.int mem,σ):=run (m+60) 65 [.obj 12,.int s,ez pid over nm goal opt ro] σ w.dJ w.inv.host w.inv.tab.bT w.dJ w.inv.host hD (w.own (m:=m+58) (le.row ko)) (w.Br (m:=m+59) (le.row em))
   have z9:goal≠mem:=fun z=>bR (z▸em)
   obtain⟨aC,want,du,fp,afo,LV,a9,cL,ans,z0,EL,aao,jt⟩:=hw m T A R (g+199) σ le w
   have xD:=le.trans cL
   have vF:=GO.le cL
   have LM:o.props.length<=4:=Cs aj
   cases pO with
   |false=>
    obtain⟨bn,eK,ht,b2,aX,bE,ci,cZ⟩:=World.JB (g:=g+139) (m:=m) (pid:=pid) (nm:=nm) (ro:=ro) a9 vF LM LV w.dJ (mw du xD)
    rw[l2]at bV
    exact bV ⟨bn,eK,ht,b2,w.G9 (m:=m) Ey am ni aZ (ah rfl) (ajN q) vd z9 aX bE (vF.le ci) s2,bE.less (cn ..),cL.trans ci,cZ.nil⟩
   |true=>
    obtain⟨er,OG,Xk,xh⟩:=hh
    obtain⟨bn,eK,ht,b2,aX,bE,ci,cZ⟩:=World.V3 (g:=g+79) (m:=m) (pid:=pid) (nm:=nm) (ro:=ro) a9 vF LM LV w.dJ (mw du xD) (xD.row ko) (xD.row em) ans z0 EL aao jt (xD.row Xk) xh
    rw[v0]at bV
    exact bV ⟨bn,eK,ht,b2,w.G9 (m:=m) Ey am ni aZ (ah rfl) (ajN q) vd z9 aX bE (vF.le ci) s2,bE.less (cn ..),cL.trans ci,cZ⟩
theorem ad2{opt:O}{mask:H}{C:Cl}{J:Loc}(jt:c2 J 13=D (.int opt))(Lj:c2 J 12=D (.int mask)):aG PP C (.ite (.ay .eq (.aq 13) (.lit (.int 1))) (.bin .bor (.aq 12) (.lit (.int 16))) (.aq 12)) J σ=D (.int (i2 opt mask:H),σ):=by
 refine(oy (v:= .int ((mask|||16:H):O)) (w:= .int mask) (gc (bF jt) cE rfl) (kX (bF Lj) cE rfl) (bF Lj)).trans ?_
 unfold i2
 by_cases q:opt=1
 ·rw[cW q,a7 q];rfl
 ·rw[ek q,bz q];rfl
theorem hW.ne{es:I cw}{ps:I fy}(h:hW es ps)(aZ:es≠ []):ps≠ []:=fun q=>aZ (Q8.mp (h.len.symm.trans (bs HC q)))
theorem y3.row{T0 du eK:ak}{goal0 goal mask mem s P:H}{opt:O}{lk:I H}(a8:cP T0)(cj:T0.rows.Nodup)(hQ:jl T0 goal0 lk)(ks:md T0 mask lk)(aA:qs T0 mask)(l:du.bJ eK):y3 M T0 du goal0 goal mask mem opt->eK.rows[goal]?≠D (gD s P)
 |.unit h0 ag bR fa=>by
  subst bR fa
  obtain⟨k,r,e,am,_⟩:=AK a8 cj hQ ks (ks.ne aA (Dv mask ag h0))
  exact fun z=>absurd (sN (l.row e) z) ((by decide:∀k∈ [(1:O),3,4,6],k≠15) k am)
 |.e8 _ uZ x1 jq am _=>fun z=>am (sN (l.row jq) z)
theorem World.written(h:World xs M T S A R at_ (g+800) σ)(kq:S.length < 100):Tl xs M T S R g (m+65) 84 [.obj 1,.obj 2,.obj 12,.int M] σ:=by
 refine cps fun G bV=> ?_
 obtain⟨aC,du,s,i,o,fB,es,ww,aT,a9,cL,vF,F6,ok,Xr,Xq,fr,zL⟩:=World.object (g:=g+740) (m:=m+57) h
 obtain⟨bn,k,al7,aX,bE,s2⟩:=World.hp (g:=g+739) (m:=m+63) a9 (n:=16) (by decide)
 obtain⟨ct,eN,bZ,cG,Jh,s3,zM⟩:=bE.FP (acT (C:=az PP (m+64)) (J:=(hr M (D (.int s)) (D (.obj fB)) (D (.int k)) aa aa aa aa aa aa aa aa aa aa aa aa aa aa aa aa aa)) (k:=k) rfl (by show 24 < 30;decide))
 obtain⟨iq,nG,jN,l,dP,eH,hN,lN,acl,acy,KC,s4⟩:=World.ad9 (g:=g+729) (m:=m+60) cG (J:=(hr M (D (.int s)) (D (.obj fB)) (D (.int k)) (D (.obj eN)) aa aa aa aa aa aa aa aa aa aa aa aa aa aa aa aa)) (nms:=iE k) rfl rfl (by show 25 < 30;decide) Jh (fun q=>lK zM ((by decide:∀x∈ [3,4],x∈fc) eN q)) (Bc k)
 obtain⟨ad7,al6,aai,_⟩:=lN.kind eH.inv.a8
 obtain⟨hT,hY,over,d,s9,Uo,eD,eY,gQ,agX,m9,amo,amp,s5⟩:=World.Wg (g:=g+725) (m:=m+60) eH (.names lN) ad7 (kd_len aai)
 obtain⟨iN,m1,P,hL,gk,j1,ih,n8,_,s6⟩:=World.param (g:=g+724) (m:=m+62) eY (name:= .str ⟨#[80]⟩) (dflt:= .int (-1)) (b:=(over:O))
 obtain⟨qq,pg,mem,qR,iI,mF,iG,s7⟩:=World.Bs (g:=g+723) (m:=m+63) gk (s:=s) (p:=P) (gh ih)
 have Zb:hY.rows.length<=mem:=by
  rcases qi mem hY.rows.length with q|q
  ·obtain⟨ex,he⟩:=(j1.trans mF).rows
   rw[he,jJ q]at iG
   exact absurd (eY.inv.a8.idxs _ _ _ iG) (mT.mpr (eY.fresh j1 ih))
  ·exact q
 have ac8:=fun t cc=>eY.adi (t:=t) Zb cc
 obtain⟨CJ,mask,amb,pw,oS,s8⟩:=World.hp (g:=g+722) (m:=m+63) iI (n:=34) (by decide)
 obtain⟨t6,y,lp,zU,nU,afv⟩:=World.hp (g:=g+721) (m:=m+63) oS (n:=4) (by decide)
 obtain⟨yT,ro,OH,uv,mP,s10⟩:=World.hp (g:=g+720) (m:=m+63) nU (n:=3) (by decide)
 obtain⟨H9,j4,amh,uw,tL,afr⟩:=World.hp (g:=g+719) (m:=m+63) mP (n:=6) (by decide)
 obtain⟨opt,aaq,aR⟩:∃opt,ee t6 (.ab [.int 0,.int 1,.int 0,.int 2]) (.int y)=D (.int opt)/\(opt=2\/opt < 2):=⟨_,ad3 (σ:=t6) lp⟩
 obtain⟨qF,nm,ZV,sG,EN,uR⟩:∃(b:au) (nm:O),dF H9 .eq (.int j4) (.int 5)=D b/\(if b then V.int 6 else V.int (-1))= .int nm/\(b=ae->0<=nm)/\(b=aw->nm < 0):=by
  by_cases q:j4=5
  ·exact⟨ae,6,eqT (bs l3 q),rfl,fun _=>by decide,nofun⟩
  ·exact⟨aw, -1,bf (dB q),rfl,nofun,fun _=>by decide⟩
 obtain⟨CG,goal0,y9,lk,pq,rM,lI,Qm,agZ,ME,LW,BE,_,_,Fq⟩:=World.kind (g:=g+713) (m:=m+59) tL mask
 obtain⟨wg,qy,goal,ux,rN,iB,lT,mg⟩:=World.act (g:=g+712) (m:=m+60) (mask:=mask) (goal0:=goal0) (opt:=opt) rM (lI.row iG)
 have M4:bx fc ct wg:=((((((((((s4).trans s5).trans s6).trans s7).trans s8).trans afv).trans s10).trans afr).trans BE).trans lT)
 have PQ:=((s2.trans s3).trans M4).get fr (lK zL)
 have IM:=M4.get Jh (lK zM)
 obtain⟨yU,sf,uy,rO,Ul,OX,WF⟩:=rN.FP (ae6 (C:=az PP (m+64)) (J:=(hr M (D (.int s)) (D (.obj fB)) (D (.int k)) (D (.obj eN)) (D (.int over)) s9 (D (.int P)) (D (.int mem)) (D (.int mask)) (D (.int opt)) (D (.int ro)) (D (.bool qF)) (D (.int goal)) aa aa aa aa aa aa aa)) (es:=es) (nms:=iE k) rfl rfl (by show 26 < 30;decide) PQ IM (Bc k))
 have PR:=OX.get PQ (lK zL)
 have IN:=OX.get IM (lK zM)
 obtain⟨CH,um,zR,B8,Um,GD,alO⟩:=rO.FP ⟨[],agm (C:=az PP (m+64)) (J:=(hr M (D (.int s)) (D (.obj fB)) (D (.int k)) (D (.obj eN)) (D (.int over)) s9 (D (.int P)) (D (.int mem)) (D (.int mask)) (D (.int opt)) (D (.int ro)) (D (.bool qF)) (D (.int goal)) (D (.obj sf)) aa aa aa aa aa aa)) (es:=es) (nms:=iE k) rfl rfl (by show 27 < 30;decide) PR IN (Bc k)⟩
 have aff:(vy es (iE k)).length<=4:=cp (List.length_filterMap_le _ _) (Bc k)
 obtain⟨OP,zS⟩:=Z7 (σ:=CH) (C:=az PP (m+64)) (J:=(hr M (D (.int s)) (D (.obj fB)) (D (.int k)) (D (.obj eN)) (D (.int over)) s9 (D (.int P)) (D (.int mem)) (D (.int mask)) (D (.int opt)) (D (.int ro)) (D (.bool qF)) (D (.int goal)) (D (.obj sf)) (D (.obj um)) (D (.int (i2 opt mask:H))) aa aa aa aa)) (nms:=iE k) (M:=M) (want:=i2 opt mask) (rds:=vy es (iE k)) (sn:=(iE k).map (hO es)) rfl rfl rfl rfl rfl (by show 29 < 30;decide)
  (GD.get IN (lK zM)) (GD.get Ul (lK WF)) (Um.trans (by rw[iK];rfl)) aff
 have afs:bx fc CH (CH++OP):=bx.append
 obtain⟨yV,kU,CY,alI,held,alX,zT,oR,xy,Mo,agM,Qw,abG⟩:=World.laid (g:=g+706) (m:=m+58) (mask:=mask) (goal:=goal) (held0:=EC M (i2 opt mask) (iE k) (vy es (iE k))) (B8.more OP) ((lI.trans iB).row iG) kq ac8 mg Qm agZ Fq ME LW
 obtain⟨BW,DW⟩:=W3 (σ:=yV) (C:=az PP (m+64)) (J:=(hr M (D (.int s)) (D (.obj fB)) (D (.int k)) (D (.obj eN)) (D (.int over)) s9 (D (.int P)) (D (.int mem)) (D (.int mask)) (D (.int opt)) (D (.int ro)) (D (.bool qF)) (D (.int goal)) (D (.obj sf)) (D (.obj um)) (D (.int (i2 opt mask:H))) (D (.bool held)) (D (.bool (ri M (iE k) ((iE k).map (hO es))))) aa aa)) (ro:=ro) (es:=es) (o:=o) rfl rfl (by show 22 < 30;decide) (abG fB _ zL ((GD.trans afs).get PR (lK zL))) ok (Cs (ok.len▸F6))
 have rP:=oR.more BW
 have It:pg.bJ kU:=(lI.trans iB).trans xy
 have Ir:m1.bJ kU:=mF.trans It
 have Iq:hY.bJ kU:=j1.trans Ir
 have qt:jN.bJ kU:=gQ.trans Iq
 have Il:du.bJ kU:=hN.trans qt
 have GP:=vF.le Il
 have tz:=Ir.row ih
 have nK:=It.row iG
 have Pq:=agX.le Iq
 have aal:∀x,x∈l↔∃n∈iE k,kU.rows[x]?=D (eX n):=fun x=>(acy x).trans ⟨fun⟨n,a,b⟩=>⟨n,a,qt.row b⟩,fun⟨n,a,b⟩=>have ⟨y,bo⟩:=KC n a;⟨n,a,mJ rP.inv.tab.nodup b (qt.row bo)▸bo⟩⟩
 have mw:∀aB,kU.bJ aB->mV aB M CY over o (ri M (iE k) ((iE k).map (hO es))):=fun aB le IB u ns u5=>Ue Pq m9 acl aal (fun n aZ=>have ⟨x,aA⟩:=KC n aZ;⟨x,qt.row aA⟩) ok Xq IB u ns (le.trans u5)
 have G8:=ah9 (xs:=xs) (M:=M) (S:=CY) (at_:=Uo+1+1+1+1) (pid:=hY.bounds.length) (opt:=opt) (ro:=ro) (held:=held) EN uR GP F6 (ok.ne Xr) (rP.inv.tab.pure _ (im GP.row)).2 tz nK mw Qw (mg.row rM.inv.a8 rM.inv.tab.nodup Qm ME LW xy) (Pq.aW rP.inv.a8) aR
 obtain⟨dy,rest,Xp,alY⟩:=GP.aW
 obtain⟨CI,S3,R9,SS,W6,aiR,abW,ahG,Tq⟩:=World.Lf (g:=g+206) (m:=m+1) rP Xp G8 (W4 ro o) (W5 ro o)
 have aeT:cQ PP (az PP (m+64)) (wC.drop 20) (hr M (D (.int s)) (D (.obj fB)) (D (.int k)) (D (.obj eN)) (D (.int over)) s9 (D (.int P)) (D (.int mem)) (D (.int mask)) (D (.int opt)) (D (.int ro)) (D (.bool qF)) (D (.int goal)) (D (.obj sf)) (D (.obj um)) (D (.int (i2 opt mask:H))) (D (.bool held)) (D (.bool (ri M (iE k) ((iE k).map (hO es))))) (D (.lst ((nb ro o).map .int))) aa) (yV++BW)=D (.ret (.bool ae),_,CI):=de (et (kJ (eO cE (eO (lg (lg (wz (bF rfl) rP.inv.tab.bT rfl) (bF rfl) (rP.row tz)) cE rfl) (eO (bF rfl) (eO (sG▸oy (bF rfl) cE (Ba cE)) (oe (bF rfl) (bF rfl) (bF rfl))))))))
   (GJ (Gx (jm (eO (bF rfl) (eO (bF rfl) (oe (bF rfl) (IV (bF rfl) (bF rfl) (gc (bF rfl) cE rfl) (FY (bF rfl) rfl)) (bF rfl)))) W6)))
 have aeR:cQ PP (az PP (m+64)) (wC.drop 13) (hr M (D (.int s)) (D (.obj fB)) (D (.int k)) (D (.obj eN)) (D (.int over)) s9 (D (.int P)) (D (.int mem)) (D (.int mask)) (D (.int opt)) (D (.int ro)) (D (.bool qF)) (D (.int goal)) aa aa aa aa aa aa aa) wg=D (.ret (.bool ae),_,CI):=de (et uy) (de (et zR) (de (et (ad2 rfl rfl)) (de zS (de zT (lX (b:=wC.drop 20) DW aeT)))))
 have aeP:cQ PP (az PP (m+64)) (wC.drop 5) (hr M (D (.int s)) (D (.obj fB)) (D (.int k)) (D (.obj eN)) (D (.int over)) s9 aa aa aa aa aa aa aa aa aa aa aa aa aa aa) hT=D (.ret (.bool ae),_,CI):=de (et (jm (eO (bF rfl) (oe cE (bF rfl) (Ba cE))) hL)) (de (et (sY (bF rfl) gk.inv.tab.bT sX (jT (v:=gD s P) (kJ (oe cE (bF rfl) (bF rfl)))) qR)) (de (et (jm (jc (bF rfl) cE) pw))
   (de (et (lg (v:= .ab [.int 0,.int 1,.int 0,.int 2]) rfl (jm (jc (bF rfl) cE) zU) aaq)) (de (et (jm (jc (bF rfl) cE) uv)) (de (et (gc (jm (jc (bF rfl) cE) uw) cE ZV)) (de (et (jm (jc (bF rfl) (bF rfl)) pq)) (de ux aeR)))))))
 exact bV ⟨CI,S3,CY,R9,SS,_,k0 rfl rfl (de (agv (jm (jc (bF rfl) (bF rfl)) aT)) (de (et (jm (jc (bF rfl) cE) aX)) (de (et bZ) (de (et dP) (de eD aeP))))) rfl,aiR.less (cn ..),(cL.trans Il).trans abW,ahG.trans Mo.df,Tq.trans Mo.at_,agM⟩
end
section
variable {m:H}{σ:St}{C:Cl}
noncomputable def T0:ak:= {rows:=[],bounds:=[],defaults:=[],names:=[],decls:=[]}
noncomputable def yk(rows:I V):St:=[.inst 1 PK,.list rows,.dict .t (ou rows),.list [.none],.list [],.list [],.list [],.dict .i [],.dict .i []]
theorem Y1:PP.aV 0=D (.ab h6):=Eq.trans rfl (Hv (D (V.ab h6)))
theorem Y4:∀r∈h6,r.isTup=ae/\r.pure=ae:=by decide
theorem Y3:h6.Nodup:=by decide
theorem Y2:h6.length=16:=by decide
theorem Ox:∀(l:I V) (T:ak),(T.rows++l).Nodup->T.ho l= {T with rows:=T.rows++l}
 |[],T,_=>bs (fun r=> {T with rows:=r}) (fi T.rows).symm
 |r::l,T,h=>by
  have bg:r∉T.rows:=fun q=>(Cp.mp h).2.2 r q r (.head _) rfl
  show(T.put r).ho l=_
  rw[show T.put r= {T with rows:=T.rows++ [r]}from bz bg]
  have e:(T.rows++ [r])++l=T.rows++r::l:=hR ..
  exact(Ox l _ (by rw[e];exact h)).trans (bs (fun x=> {T with rows:=x}) e)
inductive Sp(m:H)(l:I V)(s1:aJ V)(T:ak)(σ:St):Prop
 |mk (af:St) (vA:aJ V) (e:h8 (fun _=>ae) 1 (fun J σ=>cQ PP (az PP (m+1)) [.expr (.b6 (.aq 0) 10 [.aq 1])] J σ) l [D (.obj 2),s1] σ=D (.next,[D (.obj 2),vA],af)) (t:TabAt af (T.ho l)) (s:bx [3,4] σ af) (len:af.length=σ.length)
theorem KQ:∀(l:I V) (σ:St) (T:ak) (s1:aJ V),TabAt σ T->(∀r∈l,r.isTup=ae/\r.pure=ae)->T.rows.length+l.length < 1000->Sp m l s1 T σ
 |[],σ,T,s1,h,_,_=>⟨σ,s1,rfl,h,bx.refl ..,rfl⟩
 |r::l,σ,T,s1,h,bg,aj=>by
  obtain⟨dR,dq⟩:=bg r (.head _)
  have lt:T.rows.length+1+l.length < 1000:=by rw[jL];exact aj
  have p:=rv (m:=m) h dR dq (fN (c9 (cn ..) aj) (by decide))
  obtain⟨a1,c1⟩:=h.put dR dq
  obtain⟨af,vA,e,t,s,len⟩:=KQ l (gi T r σ) (T.put r) (D r) a1 (fun x aA=>bg x (.tail _ aA)) (c9 (rU (T.Bt r) _) lt)
  exact⟨af,vA,mu rfl (g4 PP (az PP (m+1)) [.expr (.b6 (.aq 0) 10 [.aq 1])] [D (.obj 2),D r] σ h.bT p) e,t,c1.trans s,by rw[len,Go]⟩
inductive S9(m:H)(σ:St):Prop
 |mk (aF:St) (e:az PP (m+3) 2 [.obj 2] (σ++ [.inst 1 []])=D (.none,aF)) (t:TabAt aF (T0.ho h6)) (len:aF.length=11) (eT:aF[0]?=σ[0]?) (eL:aF[1]?=σ[1]?)
theorem ahN{a b:Cell}:S9 m [a,b]:=by
 have ahM:TabAt ([a,b]++yk []) T0:=⟨rfl,rfl,rfl,rfl,rfl,rfl,rfl,fun j k b e=>(nomatch e),nofun,amM⟩
 obtain⟨aF,s1,e,t,s,len⟩:=KQ (m:=m+1) h6 ([a,b]++yk []) T0 aa ahM Y4 (by rw[Y2];decide)
 have pre:cQ PP (az PP (m+2)) (dM.take 10) [D (.obj 2),aa] [a,b,.inst 1 []]=D (.next,[D (.obj 2),aa],[a,b]++yk []):=by kernel_rfl
 have YY:cQ PP (az PP (m+2)) (dM.drop 10) [D (.obj 2),aa] ([a,b]++yk [])=D (.next,[D (.obj 2),s1],aF):=de (KX (i:=1) (rng:=aw) (it:= .aV 0) (b:=[.expr (.b6 (.aq 0) 10 [.aq 1])]) (fl:= .next) (y:= .ab h6) (aM:=[a,b]++yk []) (vs:=h6) (Zz Y1) rfl e) rfl
 have call:az PP (m+3) 2 [.obj 2] [a,b,.inst 1 []]=D (.none,aF):=k0 (F:=f2) (J:=[D (.obj 2),aa]) (bt:=[D (.obj 2),s1]) (fl:= .next) rfl rfl (lX (a:=dM.take 10) (b:=dM.drop 10) pre YY) rfl
 exact⟨aF,call,t,len,s.2 0 (by show 0 < 11;decide) (by decide),s.2 1 (by show 1 < 11;decide) (by decide)⟩
theorem aas:az PP (m+1) 24 [.obj σ.length,.obj 2] (σ++ [.inst 6 []])=D (.none,σ++ [.inst 6 sH]):=k0 (F:=KG) (J:=[D (.obj σ.length),D (.obj 2)]) (bt:=[D (.obj σ.length),D (.obj 2)]) (fl:= .next) rfl rfl
  (fb rfl rfl (by kernel_rfl) (fb rfl rfl (by kernel_rfl) (fb rfl rfl (by kernel_rfl) (fb rfl rfl (by kernel_rfl) (fb rfl rfl (by kernel_rfl) (by kernel_rfl)))))) rfl
end
noncomputable def adL:V->au
 |.ab (.int k::rest)=>decide (rest.length < 50) && decide (k∈ [(1:O),2,6,8])
 |_=>aw
theorem Y5:h6.all adL=ae:=by decide
theorem uD{t:H}{k:O}{rest:I V}(e:h6[t]?=D (.ab (.int k::rest))):rest.length < 50/\k∈ [(1:O),2,6,8]:=
 have ⟨a,b⟩:=ei.mp (ke.mp Y5 _ (im e))
 ⟨gy a,gy b⟩
noncomputable def qA:ak:= {rows:=h6,bounds:=[],defaults:=[],names:=[],decls:=[]}
theorem ahV:T0.ho h6=qA:=Ox h6 T0 Y3
theorem FT{k y:O}(h:k∈ [(1:O),2,6,8])(bo:y∉ [(1:O),2,6,8]):k≠y:=fun q=>bo (q▸h)
theorem ahW:cP qA:=⟨fun i _=>rfl,fun t k rest e ah iX=>⟨k,rest,rfl,FT (uD e).2 (by decide),fun q=>by
   have h:=(uD e).2
   rcases q with q|q|q|q
   ·exact absurd q ah
   ·exact absurd q (FT h (by decide))
   ·exact absurd q (FT h (by decide))
   ·exact absurd q iX,(uD e).1⟩,fun t rest e=>absurd (uD e).2 (by decide),by decide,fun x p e=>absurd (uD e).2 (by decide),fun x s p e=>absurd (uD e).2 (by decide)⟩
noncomputable def yX:bw:= {inst:=12,bY:=14,bk:=15,aO:=16,road:=17,da:=18,ba:=19}
noncomputable def CW(M:O)(tell:au):be:= {mode:=M,deep:=0,dn:=0,df:=tell,twin:= .none,at_:=0,bY:=[],bk:=[],aO:=[],ba:=[]}
noncomputable def BM(M:O)(tell:au):St:=[.inst 6 sH,.inst 5 (g0 yX (CW M tell)),.dict .i [(.int 2,.obj 20)],.dict .t [],.dict .t [],.list [],.list [],.inst 0 [(0,.obj 19)],.list [],.inst 7 []]
noncomputable def rt(M:O):St:=[.inst 6 sH,.inst 5 (Gv 12 (.obj 11) M),.dict .i [],.dict .t [],.dict .t [],.list [],.list [],.inst 0 [(0,.obj 19)],.list []]
inductive Sx(xs:I O)(M:O)(g m:H)(a0 lb:V)(live:St->au)(ls:I O)(s6:aJ V)(σ:St):Prop
 |mk (af:St) (aB:ak) (iu:I (V×V)) (A':bw) (R':be) (at':H) (GG:aJ V) (e:h8 live 6 (fun J σ=>cQ PP (az PP (m+65)) [.cT (.aq 5) 23 (.aq 6),.iff (.not (.call 82 [.aq 1,.aq 2,.aq 5,.aq 3])) [.ret (.lit (.bool aw))] [],.iff (.or [.not (.call 84 [.aq 1,.aq 2,.aq 5,.aq 3]),.not (.call 85 [.aq 1,.aq 2,.aq 5,.aq 3])]) [.ret (.lit (.bool aw))] []] J σ) (ls.map .int) [D a0,D (.obj 1),D (.obj 2),D (.int M),D lb,D (.obj 12),s6,aa] σ=D (.next,[D a0,D (.obj 1),D (.obj 2),D (.int M),D lb,D (.obj 12),GG,aa],af)) (w:World xs M aB iu A' R' at' g af)
section
variable {xs:I O}{M:O}{T:ak}{S:I (V×V)}{A:bw}{R:be}{at_ g m:H}{σ:St}
theorem mj(aj:σ.length=11){L:St}(j:H):(σ++L)[11+j]?=L[j]?:=by rw[<-aj,lq (cn ..),tT]
theorem Pa(aj:σ.length=11){L:St}(j:H){c:Cell}:(σ++L).set (11+j) c=σ++L.set j c:=by rw[<-aj,v6 _ _ (cn ..),tT]
theorem ahj{tell:au}(aj:σ.length=11)(aP:TabAt σ qA)(d:wi σ 2 xs)(aA:xs.length<=54)(e9:M=1\/M=2\/M=4)(bO:tell=ae->M=1):World xs M qA [] yX (CW M tell) 2 18000 (σ++BM M tell):=⟨⟨ahW,aP.more,mj aj 0,⟨mj aj 2,mj aj 9⟩,⟨mj aj 1,mj aj 3,mj aj 4,mj aj 5,mj aj 7,mj aj 8,by decide⟩,⟨rfl,.nil,nofun⟩,rfl,fun k v q=>(nomatch q),fun k v q=>(nomatch q),nofun,by show 0 < 100000;decide,⟨n4 _,kL _⟩,⟨by decide,by decide,by decide,by decide,by decide,by decide,by decide,by decide,by decide,by decide,by decide,by decide,by decide,by decide,by decide⟩⟩,rfl,rfl,rfl,.inl rfl,⟨e4 d.eT,e4 d.eL⟩,aA,.no rfl,bO,e9,fun k v q=>(nomatch q),
  ⟨by decide,by decide,by decide,by decide,by decide,by decide,by show 0+18000<=19000;decide,by show(0:O)+(18000:H)<=19000;decide⟩⟩
theorem World.setAt(h:World xs M T S A R at_ g σ){lap:O}:World xs M T S A {R with at_:=lap} at_ g (σ.set 12 (.inst 5 (g0 A {R with at_:=lap}))):=by
 have i:=h.inv
 obtain⟨bg,i0⟩:=i.rel.xp (R':= {R with at_:=lap}) rfl rfl rfl rfl
 have k1:=h.inst.1
 rw[k1]at bg i0
 obtain⟨fK,eu,eG⟩:=i.rC (i0.dC (k9 (k1▸ .head _)))
 exact⟨⟨i.a8,fK,eu,eG,bg,⟨i.tidy.dU,i.tidy.nodup,i.tidy.key⟩,i.mode,i.bk,i.lW,i.aO,i.da,i.size,i.e8⟩,h.idle,h.deep,h.place,h.ll,⟨i0.get h.d.eT (by decide),i0.get h.d.eL (by decide)⟩,h.len,h.ik.step (c:=0) i0 (fun i hi=> .inl (dt.mp hi▸(by decide:12<=20))) rfl (.inl rfl),h.tell,h.mode,h.p1,⟨h.room.dR,h.room.dq,h.room.e2,h.room.gw,h.room.kF,h.room.ih,h.room.iG,h.room.jA⟩⟩
theorem World.MQ{a0 lb:V}{live:St->au}(pI:∀aF,live aF=ae):∀(ls:I O) (T:ak) (S:I (V×V)) (A:bw) (R:be) (at_:H) (σ:St) (s6:aJ V),World xs M T S A R at_ (g+2400 * ls.length) σ->S.length+ls.length<=90->Sx xs M g m a0 lb live ls s6 σ
 |[],T,S,A,R,at_,σ,s6,h,_=>⟨σ,T,S,A,R,at_,s6,sr (pI σ),h⟩
 |l::ls,T,S,A,R,at_,σ,s6,h,kq=>by
  rw[show g+2400 * (l::ls).length=(((g+2400 * ls.length)+800)+800)+800 from by rw[qd,akr,<-jK]]at h
  obtain⟨aC,du,ma,cv,ww,aT,a9,cL,_,_⟩:=World.nothing (m:=m) (h.setAt (lap:=l))
  obtain⟨bn,eK,S1,ht,b2,zl,aX,bE,ci,_,_,ZM⟩:=World.written (m:=m) a9 (c9 (cp (cn ..) kq) (by decide))
  obtain⟨ct,iU,i5,gA,Un,bZ,cG,fJ,_,_⟩:=World.back (m:=m+3) bE
  obtain⟨af,aB,iu,A',R',at',GG,e,w⟩:=World.MQ pI ls iU S1 i5 gA Un ct (D (.int l)) cG (cp (rU ZM _) (by rw[jL];exact kq))
  exact⟨af,aB,iu,A',R',at',GG,mu (pI σ) (g4 PP (az PP (m+65)) [.cT (.aq 5) 23 (.aq 6),.iff (.not (.call 82 [.aq 1,.aq 2,.aq 5,.aq 3])) [.ret (.lit (.bool aw))] [],.iff (.or [.not (.call 84 [.aq 1,.aq 2,.aq 5,.aq 3]),.not (.call 85 [.aq 1,.aq 2,.aq 5,.aq 3])]) [.ret (.lit (.bool aw))] []] [D a0,D (.obj 1),D (.obj 2),D (.int M),D lb,D (.obj 12),D (.int l),aa] σ h.dJ (by kernel_rfl) aT aX bZ) e,w⟩
theorem aba(aj:σ.length=11):az PP (m+1) 74 [.obj 12] (σ++rt M)=D (.none,σ++((rt M).set 2 (.dict .i [(.int 2,.obj 20)])++ [.inst 7 []])):=by
 have len:(σ++rt M).length=20:=by rw[fw,aj];rfl
 have Tm:(σ++rt M)[12]?=D (.inst 5 (Gv 12 (.obj 11) M)):=mj aj 1
 have Tn:(σ++rt M)[13]?=D (.dict .i []):=mj aj 2
 have go:=(run m 74 [.obj 12] (σ++rt M) rfl (e4 Tm)).1 (e4 Tn) (by decide)
 rw[len,hR,Pa aj 2]at go
 exact go
end
theorem agy{P:c4}{C:Cl}{J:Loc}{σ aC bn:St}{o e:E}{a n c:H}{v:V}{fs:I (H×V)}(ag:aG P C e J σ=D (v,aC))(ah:aG P C o J aC=D (.obj n,bn))(aN:bn[n]?=D (.inst c fs))(bH:(P.fld c a && decide (fs.length < 100))=ae):gI P C (.cT o a e) J σ=D (.next,J,bn.set n (.inst c (jU fs a v))):=av ag (av ah (by dsimp only;rw[aN];exact a7 bH))
noncomputable def qu:H->O
 |2=>4
 |3=>2
 |_=>1
theorem SD{σ:St}{y:H}(h:y < 4):ee σ (.ab [.int 1,.int 1,.int 4,.int 2]) (.int y)=D (.int (qu y))/\(qu y=1\/qu y=2\/qu y=4):=nA (p:=fun y=>ee σ (.ab [.int 1,.int 1,.int 4,.int 2]) (.int y)=D (.int (qu y))/\(qu y=1\/qu y=2\/qu y=4)) ⟨rfl,.inl rfl⟩ ⟨rfl,.inl rfl⟩ ⟨rfl,.inr (.inr rfl)⟩ ⟨rfl,.inr (.inl rfl)⟩ y h
inductive S5(m k n:H)(xs:I O)(aF:St):Prop
 |mk (l9:St) (y:H) (h:y < n) (e:az PP (m+1) 75 [.obj 1,.int n] aF=D (.int (y:H),l9)) (t:TabAt l9 qA) (d:wi l9 (k+1) xs) (len:l9.length=11)
section
variable {m:H}{σ:St}
theorem PM{k n:H}{xs:I O}{aF:St}(t:TabAt aF qA)(d:wi aF k xs)(len:aF.length=11)(aA:xs.length<=54)(am:k < a4)(aZ:0 < n):S5 m k n xs aF:=
 have s:bx [1] aF (aF.set 1 (.list [.int (k+1:H),.obj 0])):=bx.set (.head _)
 match PN (m:=m) d aA am (n:=n) (fv.mpr aZ)with
 |⟨.ofNat y,h0,ag,e⟩=>⟨_,y,fv.mp ag,e,t.same s (fun i hi=> .inl (dt.mp hi▸(by decide:1 < 2))),⟨s.get d.eT (by decide),h9 d.eL⟩,by rw[tR];exact len⟩
theorem Wy{xs:I O}(aA:xs.length<=100):of σ (.lst (xs.map V.int)) aa (D 54)=D (.lst ((xs.take 54).map .int)):=by
 unfold of;dsimp only
 refine(a7 (by rw[d5];exact cp aA (by decide))).trans (bs (fun l=>D (V.lst l)) ?_)
 unfold cut ix mn;dsimp only
 rw[bz (by decide),List.drop_zero,aky,d5,<-List.map_take]
 exact bs (HE V.int) List.take_eq_take_min.symm
theorem Xm{d:H}(h:σ[d]?=D (.dict .t [])):dF (σ++ [.dict .t []]) .eq (.obj d) (.obj σ.length)=D ae:=by
 show nT (σ++ [.dict .t []]) (.obj d) (.obj σ.length)=_
 unfold nT;dsimp only;rw[e4 h,fP];rfl
theorem Ny{P:c4}{C:Cl}{J:Loc}{σ aC aF:St}{c f:H}{as:I E}{vs:I V}(h:e3 P C as J σ=D (vs,aC))(hi:P.init c=D (D f))(aE:C f (.obj aC.length::vs) (aC++ [.inst c []])=D (.none,aF)):aG P C (.new c as) J σ=D (.obj aC.length,aF):=av h (by dsimp only;rw[hi];exact av aE rfl)
theorem acZ{M:O}{J:Loc}(aj:σ.length=11)(ah:c2 J 2=D (.obj 2))(aN:c2 J 3=D (.int M)):aG PP (az PP (m+65)) (.new 5 [.new 6 [.aq 2],.aq 3]) J σ=D (.obj 12,σ++rt M):=by
 have Fq:(σ++ [Cell.inst 6 sH]).length=12:=by rw[fw,aj];rfl
 have hi:=Ny (P:=PP) (J:=J) (as:=[.aq 2]) (jT (bF ah)) (by decide:PP.init 6=D (D 24)) (aas (m:=m+64) (σ:=σ))
 have afd:=OE (m:=m+63) (σ:=σ++ [.inst 6 sH]) (host:= .obj 11) (mode:=M)
 rw[aj]at hi
 have n:=Ny (P:=PP) (J:=J) (as:=[.new 6 [.aq 2],.aq 3]) (jc hi (bF aN)) (by decide:PP.init 5=D (D 31)) afd
 rw[Fq,hR]at n
 exact n
noncomputable def sO(xs:I O)(aiL Hi Hj eC dS dT:aJ V):Loc:=[D (.lst (xs.map .int)),aiL,Hi,Hj,eC,dS,dT,aa]
theorem ab0(xs:I O)(aA:xs.length<=100):∃af,az PP (m+66) 86 [.lst (xs.map .int)] []=D (.bool ae,af):=by
 have JX:=fun σ=>Wy (σ:=σ) aA
 have vU:(xs.take 54).length<=54:=List.length_take_le ..
 generalize xs.take 54=d4 at *
 have aE:=sc (σ:=[]) (ck:=fun v aF=>gC PP (az PP (m+65)) aa [D (.lst (xs.map .int)),aa,aa,aa,aa,aa,aa,D v] aF) (f:=fun v aF=>aG PP (az PP (m+65)) (.aq 7) [D (.lst (xs.map .int)),aa,aa,aa,aa,aa,aa,D v] aF) (live:=fun _=>ae) (r:=fun v=>v) (d4.map .int) [] (fun v _ t=>rfl) (fun v _ t=>rfl) (fun _=>rfl) (c9 (cp (gb (g7 _)) (cp (gb (d5 _)) vU)) (by decide))
 rw[aj7,qf,qf]at aE
 obtain⟨anb,aX,fH,ab8,V6,V8⟩:=ahN (m:=m+62) (a:= .list (d4.map .int)) (b:= .list [.int (0:H),.obj 0])
 rw[ahV]at fH
 obtain⟨alH,y,lp,bZ,jC,eM,xA⟩:=PM (m:=m+64) fH ⟨V6.trans rfl,V8.trans rfl⟩ ab8 vU (by decide) (n:=4) (by decide)
 obtain⟨yW,z,gx,dP,p5,zK,sQ⟩:=PM (m:=m+64) jC eM xA vU (by decide) (n:=5) (by decide)
 obtain⟨M,e9,ZK⟩:∃M:O,ee alH (.ab [.int 1,.int 1,.int 4,.int 2]) (.int y)=D (.int M)/\(M=1\/M=2\/M=4):=⟨_,SD lp⟩
 have sm:cQ PP (az PP (m+65)) (wD.take 4) (sO xs aa aa aa aa aa aa) []=D (.next,sO xs (D (.obj 1)) (D (.obj 2)) (D (.int M)) (D (.bool (decide ((z:O) < 4)))) aa aa,yW):=(g4 PP (az PP (m+65)) (wD.take 4) (sO xs aa aa aa aa aa aa) [] (JX []) rfl).1 aE aX bZ e9 dP rfl
 generalize decide ((z:O) < 4)=lb at *
 clear aX bZ dP e9 aE fH jC eM JX
 have Hm:World d4 M qA [] yX (CW M (lb && decide (M=1))) 2 18000 (yW++BM M (lb && decide (M=1))):=ahj sQ p5 zK vU ZK fun q=>gy (ei.mp q).2
 have ahT:gI PP (az PP (m+65)) (.cT (.aq 5) 42 (.and [.aq 4,.ay .eq (.aq 3) (.lit (.int 1))])) (sO xs (D (.obj 1)) (D (.obj 2)) (D (.int M)) (D (.bool lb)) (D (.obj 12)) aa) (yW++((rt M).set 2 (.dict .i [(.int 2,.obj 20)])++ [.inst 7 []]))=D (.next,_,yW++BM M (lb && decide (M=1))):=(agy (wu (bF rfl) (gc (bF rfl) cE rfl)) (bF rfl) (mj sQ 1) (by kernel_rfl)).trans (bs (fun σ=>D (ev.next,_,σ)) (Pa sQ 1))
 generalize al1:yW++BM M (lb && decide (M=1))=wf at *
 have lN:1+d4.length / 18<=4:=qg (Nat.div_le_div_right (c:=18) vU) 1
 have sR:aG PP (az PP (m+65)) (.bin .add (.lit (.int 1)) (.bin .fdiv (.len (.sub (.aq 1) (.lit (.int 1)))) (.lit (.int 18)))) (sO xs (D (.obj 1)) (D (.obj 2)) (D (.int M)) (D (.bool lb)) (D (.obj 12)) aa) wf=D (.int (1+d4.length / 18:H),wf):=jB PP (az PP (m+65)) (.bin .add (.lit (.int 1)) (.bin .fdiv (.len (.sub (.aq 1) (.lit (.int 1)))) (.lit (.int 18)))) (sO xs (D (.obj 1)) (D (.obj 2)) (D (.int M)) (D (.bool lb)) (D (.obj 12)) aa) wf (rE (i:=1) Hm.d.eL (by decide)) (sR Hm.d.eT (d5 _) (cp vU (by decide))) (uC (a:=d4.length) (b:=18) (by decide) (by decide)) rfl
 generalize 1+d4.length / 18=n at *
 have rng:ii (.int (n:H))=D (((gl n).map fun(i:H)=>(i:O)).map .int):=(a7 ⟨kd n,oW.mpr (cp lN (by decide))⟩:ii (.int (n:H))=D ((gl n).map fun(i:H)=> .int i)).trans (bs D (iK ..).symm)
 have jd:((gl n).map fun(i:H)=>(i:O)).length<=4:=by rw[d5,Rb];exact lN
 obtain⟨aC,du,alK,ma,cv,ww,s6,Xc,a9⟩:=World.MQ (g:=0) (m:=m) (a0:= .lst (xs.map .int)) (lb:= .bool lb) (live:=eQ wf (.int (n:H))) (fun _=>rfl) ((gl n).map fun(i:H)=>(i:O)) qA [] yX _ 2 wf aa (Hm.less (by rw[g7];exact cp (Rl 2400 jd) (by decide))) (cp (gb (g7 _)) (cp jd (by decide)))
 have Qe:=a9.inv.rel.aO
 have Ja:=a9.inv.rel.bY
 have Jc:=a9.inv.tidy.dU
 rw[a9.idle]at Qe Jc
 rw[show cv.bY=[]from Jc]at Ja
 exact⟨_,k0 rfl rfl (lX (b:=wD.drop 4) sm (de (et (acZ sQ rfl rfl)) (de (KD (jm (jT (bF rfl)) (aba (m:=m+64) sQ))) (de ahT (de (KX sR rng Xc)
  (g4 PP (az PP (m+65)) (wD.drop 8) (sO xs (D (.obj 1)) (D (.obj 2)) (D (.int M)) (D (.bool lb)) (D (.obj 12)) s6) aC a9.dJ (Ft Qe rfl rfl) a9.dJ (Xm Ja))))))) rfl⟩
end
end KK
namespace HD
open PySem PySem.W PyProof.Rows
noncomputable abbrev fx:=akM
section
noncomputable def bO(i:H):gV:=(fx.main.body[i]?).getD default
noncomputable def dV(i j:H):gV:=match bO i with|.ClassDef _ _ _ b _ _ _ _ _ _ _=>(b[j]?).getD default|_=>default
noncomputable def fdOf(st:gV)(nm q:aK)(w4:aQ)(sk aW gf Ol:al)(an:aJ aQ)(DA Wv:al)(iW:aQ):ql:=match st with
 |.FunctionDef _ a b _ _ _ g5 _ _ _=> {name:=nm,qualname:=q,params:=a,body:= .stmts b,scope:=g5,globals:=w4,closure:=[],defaults:=sk,kwdefaults:=aW,doc:=gf,pyModule:=Ol,annotations:=an,code:=DA,closureTuple:=Wv,builtins:=iW}
 |_=>default
noncomputable def bW(vs:I al):db:=⟨.type "tuple",aa,.seq ⟨vs⟩ 0,⟨[]⟩⟩
noncomputable def fl(vs:I al):db:=⟨.none,aa,.fields ⟨vs⟩,⟨[]⟩⟩
noncomputable def dY(t:yR)(vs:I al):db:=⟨.type t,aa,.fields ⟨vs⟩,⟨[]⟩⟩
noncomputable def wR(P:eb):I (aK×H×al)->I g8
 |[]=> []
 |x::r=>⟨tZ P x.1,.str x.1 x.2.1,x.2.2⟩::wR P r
noncomputable def Ki(es:I g8)(n:H):db:=⟨.type "dict",aa,.dict ⟨es⟩ n,⟨[]⟩⟩
noncomputable def gf(P:eb)(es:I (aK×H×al))(n:H):db:=⟨.type "dict",aa,.dict ⟨wR P es⟩ n,⟨[]⟩⟩
noncomputable def wS(P:eb)(es:I (aK×H×al))(n:H):db:=⟨.none,aa,.dict ⟨wR P es⟩ n,⟨[]⟩⟩
noncomputable def na(h i:O)(t:H)(v:al):g8:=⟨h,.int i t,v⟩
noncomputable def cut:aK:="/claim/cut.py"
noncomputable def ms(c ns:aQ)(nm:aK)(t:H):db:=⟨.type "frame",aa,.plain,⟨[D (.ref c),D (.ref 3),D (.ref ns),aa,D (.str nm t),aa,D (.ref 0)]⟩⟩
noncomputable def mm(nm:aK)(t:H)(jd:O)(a:aQ):db:=⟨.type "code",aa,.fields ⟨[.str nm t,.str nm (t+1),.str "/claim/cut.py" (t+2),.int jd 0,.int 0 0,.int 0 0,.int 0 0,.int 0 0,.ref a,.bool aw,.int 181 0,.ref (a+1),.none,.none,.none,.none,.int (t+3) 0,.int jd 0,.str "/claim/cut.py" (t+4)]⟩,⟨[]⟩⟩
noncomputable def ky(nm:aK)(av mro:I al)(ns:aQ)(sub:I al)(ai:I (aJ al)):db:=⟨.type "type",aa,.cls {name:=nm,bases:=av,mro:=mro,ns:=ns,qualname:=nm,hasDict:=ae,slotNames:=[],subclasses:=sub,abstract:=aw,collection:=aa,hasDel:=aw},⟨ai⟩⟩
noncomputable def NC:H->I aK->I al
 |_,[]=> []
 |t,x::r=> .str x t::NC (t+1) r
noncomputable def JH(nm q:aK)(a t:H)(jd xK:O)(gE mI:al)(b eF:H):db:=⟨.type "code",aa,.fields ⟨[.str nm t,.str q (t+1),.str "/claim/cut.py" (t+2),.int jd 0,.int xK 0,.int 0 0,.int 0 0,.int 3 0,.ref a,.bool ae,.int 181 0,.ref (a+1),.none,gE,mI,.ref b,.int eF 0,.int jd 0,.str "/claim/cut.py" (eF+1)]⟩,⟨[]⟩⟩
noncomputable def fn(st:gV)(nm q:aK)(sk:al)(c:aQ)(rn:aK)(mt:H):db:=⟨.type "function",aa,.func (fdOf st nm q 3 sk .none .none (.str rn mt) aa (.ref c) .none 0),⟨[]⟩⟩
noncomputable def Oy(st:gV)(nm q:aK):db:=⟨.none,aa,.func (fdOf st nm q 0 .none .none .none .none aa .none .none 0),⟨[]⟩⟩
noncomputable def bM(st:gV)(nm q:aK)(a t:H)(jd xK:O)(ns:I aK)(sk:al)(rn:aK)(mt:H):I db:=[bW [],fl [],bW (NC (t+3) ns),bW [],Oy st nm q,JH nm q a t jd xK (.ref (a+2)) (.ref (a+3)) (a+4) (t+3+ns.length),fn st nm q sk (a+5) rn mt]
noncomputable def jb(st:gV)(nm q:aK)(a t:H)(jd xK:O)(sk:al)(rn:aK)(mt:H):I db:=[bW [],fl [],Oy st nm q,JH nm q a t jd xK .none .none (a+2) (t+3),fn st nm q sk (a+3) rn mt]
noncomputable def Ma:BT->H->I db->BT
 |t,_,[]=>t
 |t,n,o::r=>Ma (t.ins n o) (n+1) r
noncomputable def Ax:BT->H->I (I db)->BT
 |t,_,[]=>t
 |t,n,l::r=>Ax (Ma t n l) (n+l.length) r
noncomputable def lf:BT->I (H×db)->BT
 |t,[]=>t
 |t,(a,o)::r=>lf (t.set a fun _=>o) r
noncomputable def Dm:db:=bW []
noncomputable def wB:db:=fl []
noncomputable def zm:db:=mm "<module>" 182 1 11
noncomputable def Dn:db:=ms 13 3 "__main__" 164
noncomputable def PJ(P:eb):BT:= .node (boot_o_0 P) (.node (boot_o_1 P) (.node (boot_o_3 P) (.node (boot_o_7 P) .nil .nil) (.node Dm .nil .nil)) (.node (boot_o_5 P) (.node (boot_o_9 P) .nil .nil) (.node zm .nil .nil)))
 (.node (boot_o_2 P) (.node (boot_o_4 P) (.node (boot_o_8 P) .nil .nil) (.node wB .nil .nil)) (.node (boot_o_6 P) (.node (boot_o_10 P) .nil .nil) (.node Dn .nil .nil)))
noncomputable def w3:I (aK×H×al):=("__doc__",166,.none)::("__package__",167,.none)::("__loader__",168,(.builtin "__main__.__loader__#opaque"))::("__spec__",169,.none)::("__annotations__",170,(.ref 6))::("__builtins__",171,(.ref 4))::("__file__",173,(.str "/claim/cut.py" 172))::("__cached__",174,.none)::("_wall",193,(.ref 21))::("U_ANY",197,(.int 1 196))::("U_PROP",199,(.int 3 198))::("U_READONLY",201,(.int 4 200))::("U_INDEX",203,(.int 5 202))::("U_ENUM",205,(.int 10 204))::("U_OPTION",207,(.int 11 206))::("U_VAR",209,(.int 15 208))::("KeepError",240,(.ref 39))::("TooDeep",269,(.ref 60))::("HostFault",296,(.ref 80))::("Notes",347,(.ref 120))::("Y_KEY",351,(.int 1 350))::("Y_BOOL",353,(.int 2 352))::("Y_STR",355,(.int 3 354))::("Y_NUM",357,(.int 4 356))::("Y_ENUM",359,(.int 5 358))::("Y_UNION",361,(.int 6 360))::("Y_INTER",363,(.int 7 362))::("Y_OBJ",365,(.int 8 364))::("Y_REF",367,(.int 9 366))::("Y_PARAM",369,(.int 10 368))::("Y_ARRAY",371,(.int 11 370))::("Y_TUPLE",373,(.int 12 372))::("Y_SIG",375,(.int 13 374))::("Y_KEYOF",377,(.int 14 376))::("Y_INDEX",379,(.int 15 378))::("Y_COND",381,(.int 16 380))::("Y_MAPPED",383,(.int 17 382))::("Y_TPL",385,(.int 18 384))::("Y_ALIAS",387,(.int 19 386))::("ANY",389,(.int 0 388))::("UNKNOWN",391,(.int 1 390))::("NEVER",393,(.int 2 392))::("VOID",395,(.int 3 394))::("UNDEF",397,(.int 4 396))::("NULLT",399,(.int 5 398))::("STRING",401,(.int 6 400))::("NUMBER",403,(.int 7 402))::("FALSE_T",405,(.int 8 404))::("TRUE_T",407,(.int 9 406))::("OBJECTT",409,(.int 10 408))::("EMPTY",411,(.int 11 410))::("ERR",413,(.int 13 412))::("FRESH_F",415,(.int 14 414))::("FRESH_T",417,(.int 15 416))::("P_OPT",419,(.int 1 418))::("P_READONLY",421,(.int 2 420))::("P_PRIVATE",423,(.int 8 422))::("P_PROTECTED",425,(.int 16 424))::("FAM_OTHER",427,(.int 0 426))::("FAM_STR",429,(.int 1 428))::("FAM_NUM",431,(.int 2 430))::("FAM_BOOL",433,(.int 3 432))::("FAM_NULL",435,(.int 4 434))::("FAM_UNDEF",437,(.int 5 436))::("FAM_VOID",439,(.int 6 438))::("FAM_OBJ",441,(.int 7 440))::("MAX_UNION",443,(.int 400 442))::("FIRST_ROWS",465,(.ref 147))::("LITERAL_ROWS",466,(.ref 148))::("MARKED_ROWS",467,(.ref 149))::("OBJECT_ROWS",468,(.ref 150))::("KEY_FAMILIES",475,(.ref 151))::("KID_SPANS",491,(.ref 152))::[]
noncomputable def Gg:I al:=[.int 1 0,.int 0 0,.ref 20,.int 12 0,.int 0 0,.ref 27,.int 17 0,.int 0 0,.ref 48,.int 22 0,.int 0 0,.ref 68,.int 27 0,.int 0 0,.ref 88]
noncomputable def V9(P:eb):I (H×db):=[(2,wS P [("type.__subclasses__.Exception.0",237,(.int 39 0)),("type.__subclasses__.Exception.n",238,(.int 1 0))] 2),(3,gf P (("__name__",165,(.str "kindkeep.types" 348))::(w3)) 74),(12,fl (Gg))]
noncomputable def acP(P:eb):I (I db):=[bM (bO 0) "_wall" "_wall" 15 187 1 1 ["k"] .none "__main__" 164,[bW [.type "Exception"],dY "builtin_function_or_method" [.builtin "type.__prepare__",.type "type"],gf P [("__module__",217,(.str "kindkeep.diags" 194)),("__qualname__",219,(.str "KeepError" 218)),("__firstlineno__",221,(.int 12 220)),("__init__",230,(.ref 36)),("__static_attributes__",233,(.ref 37))] 5,bW [],fl [.int 14 0,.int 4 0,.ref 35],mm "KeepError" 212 12 25,ms 27 24 "kindkeep.diags" 194,bW [.str "" 222]],bM (dV 9 0) "__init__" "KeepError.__init__" 30 223 14 2 ["self","text"] (.ref 29) "kindkeep.diags" 194,[bW [.str "number" 231,.str "text" 232],gf P [("__module__",217,(.str "kindkeep.diags" 194)),("__firstlineno__",221,(.int 12 220)),("__init__",230,(.ref 36)),("__static_attributes__",233,(.ref 37)),("__weakref__",235,(.ref 40)),("__doc__",236,.none)] 3,ky "KeepError" [.type "Exception"] [.ref 39,.type "Exception",.type "BaseException",.type "object"] 38 [.ref 60,.ref 80] [(D (.ref 22)),aa,(D (.str "KeepError" 210)),(D (.str "KeepError" 218)),(D (.builtin "Exception.__new__")),(D (.bool ae))],dY "getset_descriptor" [.str "__weakref__" 234,.ref 39,.builtin "ExceptionGroup.__weakref__",.none],dY "super" [.ref 39,.ref 39,.ref 39],dY "builtin_function_or_method" [.builtin "object.__init_subclass__",.ref 39],bW [.ref 39],dY "builtin_function_or_method" [.builtin "type.__prepare__",.type "type"],gf P [("__module__",248,(.str "kindkeep.diags" 194)),("__qualname__",250,(.str "TooDeep" 249)),("__firstlineno__",252,(.int 17 251)),("__init__",263,(.ref 57)),("__static_attributes__",266,(.ref 58))] 5,bW [],fl [.int 19 0,.int 4 0,.ref 56],mm "TooDeep" 243 17 46,ms 48 45 "kindkeep.diags" 194,bW [.int 2589 253,.str "" 254]],bM (dV 10 0) "__init__" "TooDeep.__init__" 51 255 19 3 ["self","number","text"] (.ref 50) "kindkeep.diags" 194,[bW [.str "number" 264,.str "text" 265],gf P [("__module__",248,(.str "kindkeep.diags" 194)),("__firstlineno__",252,(.int 17 251)),("__init__",263,(.ref 57)),("__static_attributes__",266,(.ref 58)),("__doc__",267,.none)] 2,ky "TooDeep" [.ref 39] [.ref 60,.ref 39,.type "Exception",.type "BaseException",.type "object"] 59 [] [(D (.ref 43)),aa,(D (.str "TooDeep" 241)),(D (.str "TooDeep" 249)),(D (.builtin "Exception.__new__")),(D (.bool ae))],dY "super" [.ref 60,.ref 60,.ref 60],dY "builtin_function_or_method" [.builtin "object.__init_subclass__",.ref 60],bW [.ref 39],dY "builtin_function_or_method" [.builtin "type.__prepare__",.type "type"],gf P [("__module__",277,(.str "kindkeep.diags" 194)),("__qualname__",279,(.str "HostFault" 278)),("__firstlineno__",281,(.int 22 280)),("__init__",290,(.ref 77)),("__static_attributes__",293,(.ref 78))] 5,bW [],fl [.int 24 0,.int 4 0,.ref 76],mm "HostFault" 272 22 66,ms 68 65 "kindkeep.diags" 194,bW [.str "" 282]],bM (dV 11 0) "__init__" "HostFault.__init__" 71 283 24 2 ["self","text"] (.ref 70) "kindkeep.diags" 194,[bW [.str "number" 291,.str "text" 292],gf P [("__module__",277,(.str "kindkeep.diags" 194)),("__firstlineno__",281,(.int 22 280)),("__init__",290,(.ref 77)),("__static_attributes__",293,(.ref 78)),("__doc__",294,.none)] 2,ky "HostFault" [.ref 39] [.ref 80,.ref 39,.type "Exception",.type "BaseException",.type "object"] 79 [] [(D (.ref 63)),aa,(D (.str "HostFault" 270)),(D (.str "HostFault" 278)),(D (.builtin "Exception.__new__")),(D (.bool ae))],dY "super" [.ref 80,.ref 80,.ref 80],dY "builtin_function_or_method" [.builtin "object.__init_subclass__",.ref 80],bW [],dY "builtin_function_or_method" [.builtin "type.__prepare__",.type "type"],gf P [("__module__",304,(.str "kindkeep.diags" 194)),("__qualname__",306,(.str "Notes" 305)),("__firstlineno__",308,(.int 27 307)),("__init__",315,(.ref 96)),("put",324,(.ref 103)),("codes",331,(.ref 110)),("clean",338,(.ref 117)),("__static_attributes__",340,(.ref 118))] 8,bW [],fl [.int 29 0,.int 4 0,.ref 95,.int 32 0,.int 4 0,.ref 102,.int 35 0,.int 4 0,.ref 109,.int 38 0,.int 4 0,.ref 116],mm "Notes" 299 27 86,ms 88 85 "kindkeep.diags" 194],bM (dV 12 0) "__init__" "Notes.__init__" 90 309 29 1 ["self"] .none "kindkeep.diags" 194,bM (dV 12 1) "put" "Notes.put" 97 316 32 3 ["self","code","at"] .none "kindkeep.diags" 194,bM (dV 12 2) "codes" "Notes.codes" 104 325 35 1 ["self"] .none "kindkeep.diags" 194,bM (dV 12 3) "clean" "Notes.clean" 111 332 38 1 ["self"] .none "kindkeep.diags" 194,[bW [.str "rows" 339],gf P [("__module__",304,(.str "kindkeep.diags" 194)),("__firstlineno__",308,(.int 27 307)),("__init__",315,(.ref 96)),("put",324,(.ref 103)),("codes",331,(.ref 110)),("clean",338,(.ref 117)),("__static_attributes__",340,(.ref 118)),("__dict__",342,(.ref 121)),("__weakref__",344,(.ref 122)),("__doc__",345,.none)] 4,ky "Notes" [.type "object"] [.ref 120,.type "object"] 119 [] [aa,aa,(D (.str "Notes" 297)),(D (.str "Notes" 305)),(D (.builtin "object.__new__")),(D (.bool ae))],dY "getset_descriptor" [.str "__dict__" 341,.ref 120,.builtin "function.__dict__",.builtin "function.__dict__#set"],dY "getset_descriptor" [.str "__weakref__" 343,.ref 120,.builtin "ExceptionGroup.__weakref__",.none],dY "super" [.ref 120,.ref 120,.ref 120],dY "builtin_function_or_method" [.builtin "object.__init_subclass__",.ref 120],bW [.int 1 350,.str "any" 444],bW [.int 1 350,.str "unknown" 445],bW [.int 1 350,.str "never" 446],bW [.int 1 350,.str "void" 447],bW [.int 1 350,.str "undefined" 448],bW [.int 1 350,.str "null" 449],bW [.int 1 350,.str "string" 450],bW [.int 1 350,.str "number" 451],bW [.int 2 352,.int 0 452,.int 0 453],bW [.int 2 352,.int 1 454,.int 0 455],bW [.int 1 350,.str "object" 456],bW [],bW [],bW [],bW [],bW [],bW [.int 8 364,.ref 136,.ref 137,.ref 138,.ref 139,.ref 140,.int 0 457],bW [.int 8 458,.int 9 459],bW [.int 6 360,.ref 142],bW [.int 1 350,.str "error" 460],bW [.int 2 352,.int 0 461,.int 1 462],bW [.int 2 352,.int 1 463,.int 1 464],bW [.ref 125,.ref 126,.ref 127,.ref 128,.ref 129,.ref 130,.ref 131,.ref 132,.ref 133,.ref 134,.ref 135,.ref 141,.ref 143,.ref 144,.ref 145,.ref 146],bW [.int 2 352,.int 3 354,.int 4 356,.int 5 358],bW [.int 2 352,.int 3 354,.int 4 356,.int 5 358,.int 8 364],bW [.int 8 364,.int 9 366,.int 11 370,.int 12 372,.int 13 374],Ki [na (3) (3) 394 (.int 6 438),na (4) (4) 396 (.int 5 436),na (5) (5) 398 (.int 4 434),na (6) (6) 400 (.int 1 428),na (7) (7) 402 (.int 2 430),na (10) (10) 408 (.int 7 440)] 6,Ki [na (11) (11) 370 (.ref 153),na (14) (14) 376 (.ref 154),na (15) (15) 378 (.ref 155),na (16) (16) 380 (.ref 156),na (17) (17) 382 (.ref 157)] 5,bW [.int 1 476,.int 2 477],bW [.int 1 478,.int 2 479],bW [.int 1 480,.int 3 481],bW [.int 1 482,.int 5 483],bW [.int 2 484,.int 5 485]]]
noncomputable def PI(P:eb):BT:=Ax (lf (PJ P) (V9 P)) 15 (acP P)
noncomputable def z8:I (aK×H×al):=("TypeTable",546,(.ref 188))::("Decl",591,(.ref 209))::("str_type",601,(.ref 221))::("func_type",609,(.ref 228))::("new_param",624,(.ref 236))::("new_decl",634,(.ref 243))::("parts_of",643,(.ref 250))::("whole_of_row",651,(.ref 257))::("regular_twin",660,(.ref 264))::("join_bools",667,(.ref 271))::("stays_beside",676,(.ref 278))::("top_of",684,(.ref 285))::("union",690,(.ref 290))::("without",696,(.ref 295))::("add_undef",704,(.ref 302))::("is_literal",712,(.ref 309))::("is_fresh",721,(.ref 316))::("regular_one",729,(.ref 323))::("common_family",735,(.ref 328))::("meet_family",746,(.ref 335))::("family",757,(.ref 342))::("is_nullish_family",764,(.ref 349))::("index_kids",771,(.ref 356))::("sig_kids",777,(.ref 361))::("object_kids",783,(.ref 366))::("row_kids",789,(.ref 371))::("row_binds",796,(.ref 378))::("inner_kids",806,(.ref 385))::("reached",817,(.ref 392))::("row_free",829,(.ref 399))::("free_round",835,(.ref 404))::("free_params",841,(.ref 409))::("has_params",849,(.ref 416))::("may_be_nullish",864,(.ref 424))::("mapped_may_be_nullish",874,(.ref 431))::("meet_may_be_nullish",880,(.ref 436))::("MOST_PLAIN",884,(.int 40 883))::("PLAIN_ROWS",885,(.ref 437))::("LIST_ROWS_shapes",886,(.ref 438))::("final_parts",900,(.ref 445))::("plain_shape",910,(.ref 452))::("MOST_ROUNDS",914,(.int 200 913))::("MOST_SHAPES",916,(.int 40 915))::("Thin",1102,(.ref 595))::("bound_of",1112,(.ref 606))::("is_digits",1118,(.ref 611))::("R_ASSIGN",1122,(.int 1 1121))::("R_COMPARE",1124,(.int 2 1123))::("R_IDENT",1126,(.int 3 1125))::("R_SUBTYPE",1128,(.int 4 1127))::("RULE_MEET",1130,(.int 1 1129))::("RULE_DEFERRED",1132,(.int 2 1131))::("RULE_SIG",1134,(.int 3 1133))::("RULE_LIST",1136,(.int 4 1135))::("RULE_OBJECT",1138,(.int 5 1137))::("RULE_CHOICE",1140,(.int 6 1139))::("RULE_PLACES",1142,(.int 12 1141))::("VALUE_ROWS",1143,(.ref 612))::("LIST_ROWS_relbase",1144,(.ref 613))::("SHAPED_ROWS",1145,(.ref 614))::[]
noncomputable def Of:I al:= .int 94 0:: .int 0 0:: .ref 163:: .int 120 0:: .int 0 0:: .ref 198:: .int 138 0:: .int 0 0:: .ref 220:: .int 140 0:: .int 0 0:: .ref 227:: .int 142 0:: .int 0 0:: .ref 235:: .int 148 0:: .int 0 0:: .ref 242:: .int 152 0:: .int 0 0:: .ref 249:: .int 159 0:: .int 0 0:: .ref 256:: .int 168 0:: .int 0 0:: .ref 263:: .int 173 0:: .int 0 0:: .ref 270:: .int 177 0:: .int 0 0:: .ref 277:: .int 181 0:: .int 0 0:: .ref 284:: .int 186 0:: .int 0 0:: .ref 289:: .int 203 0:: .int 0 0:: .ref 294:: .int 205 0:: .int 0 0:: .ref 301:: .int 207 0:: .int 0 0:: .ref 308:: .int 209 0:: .int 0 0:: .ref 315:: .int 212 0:: .int 0 0:: .ref 322:: .int 216 0:: .int 0 0:: .ref 327:: .int 220 0:: .int 0 0:: .ref 334:: .int 229 0:: .int 0 0:: .ref 341:: .int 246 0:: .int 0 0:: .ref 348:: .int 248 0:: .int 0 0:: .ref 355:: .int 250 0:: .int 0 0:: .ref 360:: .int 256 0:: .int 0 0:: .ref 365:: .int 261 0:: .int 0 0:: .ref 370:: .int 277 0:: .int 0 0:: .ref 377:: .int 285 0:: .int 0 0:: .ref 384:: .int 291 0:: .int 0 0:: .ref 391:: .int 300 0:: .int 0 0:: .ref 398:: .int 311 0:: .int 0 0:: .ref 403:: .int 318 0:: .int 0 0:: .ref 408:: .int 334 0:: .int 0 0:: .ref 415:: .int 337 0:: .int 0 0:: .ref 423:: .int 353 0:: .int 0 0:: .ref 430:: .int 356 0:: .int 0 0:: .ref 435:: .int 365 0:: .int 0 0:: .ref 444:: .int 381 0:: .int 0 0:: .ref 451:: .int 399 0:: .int 0 0:: .ref 458:: .int 461 0:: .int 0 0:: .ref 605:: .int 467 0:: .int 0 0:: .ref 610::[]
noncomputable def V5(P:eb):I (H×db):=[(3,gf P (("__name__",165,(.str "kindkeep.relbase" 1119))::(w3++(z8))) 134),(12,fl (Gg++(Of)))]
noncomputable def acM(P:eb):I (I db):=[bW [],dY "builtin_function_or_method" [.builtin "type.__prepare__",.type "type"],gf P [("__module__",499,(.str "kindkeep.types" 348)),("__qualname__",501,(.str "TypeTable" 500)),("__firstlineno__",503,(.int 94 502)),("__init__",511,(.ref 171)),("row",519,(.ref 178)),("put",528,(.ref 185)),("__static_attributes__",539,(.ref 186))] 7,bW [],fl [.int 96 0,.int 4 0,.ref 170,.int 110 0,.int 4 0,.ref 177,.int 113 0,.int 4 0,.ref 184],mm "TypeTable" 494 94 161,ms 163 160 "kindkeep.types" 348]::bM (dV 67 0) "__init__" "TypeTable.__init__" 165 504 96 1 ["self","row"] .none "kindkeep.types" 348::bM (dV 67 1) "row" "TypeTable.row" 172 512 110 2 ["self","t"] .none "kindkeep.types" 348::bM (dV 67 2) "put" "TypeTable.put" 179 520 113 2 ["self","row","t"] .none "kindkeep.types" 348::[bW [.str "bounds" 529,.str "decls" 530,.str "defaults" 531,.str "index" 532,.str "names" 533,.str "origins" 534,.str "putting" 535,.str "renamed" 536,.str "rows" 537,.str "shaping" 538],gf P [("__module__",499,(.str "kindkeep.types" 348)),("__firstlineno__",503,(.int 94 502)),("__init__",511,(.ref 171)),("row",519,(.ref 178)),("put",528,(.ref 185)),("__static_attributes__",539,(.ref 186)),("__dict__",541,(.ref 189)),("__weakref__",543,(.ref 190)),("__doc__",544,.none)] 4,ky "TypeTable" [.type "object"] [.ref 188,.type "object"] 187 [] [aa,aa,(D (.str "TypeTable" 492)),(D (.str "TypeTable" 500)),(D (.builtin "object.__new__")),(D (.bool ae))],dY "getset_descriptor" [.str "__dict__" 540,.ref 188,.builtin "function.__dict__",.builtin "function.__dict__#set"],dY "getset_descriptor" [.str "__weakref__" 542,.ref 188,.builtin "ExceptionGroup.__weakref__",.none],dY "super" [.ref 188,.ref 188,.ref 188],dY "builtin_function_or_method" [.builtin "object.__init_subclass__",.ref 188],bW [],dY "builtin_function_or_method" [.builtin "type.__prepare__",.type "type"],gf P [("__module__",554,(.str "kindkeep.types" 348)),("__qualname__",556,(.str "Decl" 555)),("__firstlineno__",558,(.int 120 557)),("__init__",568,(.ref 206)),("__static_attributes__",584,(.ref 207))] 5,bW [],fl [.int 122 0,.int 4 0,.ref 205],mm "Decl" 549 120 196,ms 198 195 "kindkeep.types" 348]::bM (dV 68 0) "__init__" "Decl.__init__" 200 559 122 4 ["self","did","kind","name"] .none "kindkeep.types" 348::[bW [.str "abstract" 569,.str "at" 570,.str "bases" 571,.str "body" 572,.str "busy" 573,.str "did" 574,.str "extends_class" 575,.str "file" 576,.str "kind" 577,.str "members" 578,.str "name" 579,.str "nid" 580,.str "params" 581,.str "static" 582,.str "variances" 583],gf P [("__module__",554,(.str "kindkeep.types" 348)),("__firstlineno__",558,(.int 120 557)),("__init__",568,(.ref 206)),("__static_attributes__",584,(.ref 207)),("__dict__",586,(.ref 210)),("__weakref__",588,(.ref 211)),("__doc__",589,.none)] 4,ky "Decl" [.type "object"] [.ref 209,.type "object"] 208 [] [aa,aa,(D (.str "Decl" 547)),(D (.str "Decl" 555)),(D (.builtin "object.__new__")),(D (.bool ae))],dY "getset_descriptor" [.str "__dict__" 585,.ref 209,.builtin "function.__dict__",.builtin "function.__dict__#set"],dY "getset_descriptor" [.str "__weakref__" 587,.ref 209,.builtin "ExceptionGroup.__weakref__",.none],dY "super" [.ref 209,.ref 209,.ref 209],dY "builtin_function_or_method" [.builtin "object.__init_subclass__",.ref 209],bW [.int 0 592]]::bM (bO 69) "str_type" "str_type" 215 593 138 3 ["tab","text","fresh"] (.ref 214) "kindkeep.types" 348::bM (bO 70) "func_type" "func_type" 222 602 140 2 ["tab","sig"] .none "kindkeep.types" 348::[bW [.int (-1) 611,.int (-1) 613]]::bM (bO 71) "new_param" "new_param" 230 614 142 4 ["tab","name","bound","default","pid"] (.ref 229) "kindkeep.types" 348::bM (bO 72) "new_decl" "new_decl" 237 625 148 3 ["tab","kind","name","decl"] .none "kindkeep.types" 348::bM (bO 73) "parts_of" "parts_of" 244 635 152 2 ["tab","t","row"] .none "kindkeep.types" 348::bM (bO 74) "whole_of_row" "whole_of_row" 251 644 159 1 ["row","kind"] .none "kindkeep.types" 348::bM (bO 75) "regular_twin" "regular_twin" 258 652 168 2 ["tab","t","row"] .none "kindkeep.types" 348::bM (bO 76) "join_bools" "join_bools" 265 661 173 1 ["got"] .none "kindkeep.types" 348::bM (bO 77) "stays_beside" "stays_beside" 272 668 177 3 ["tab","got","t"] .none "kindkeep.types" 348::bM (bO 78) "top_of" "top_of" 279 677 181 1 ["got","t"] .none "kindkeep.types" 348::jb (bO 79) "union" "union" 286 685 186 2 .none "kindkeep.types" 348::jb (bO 80) "without" "without" 291 691 203 3 .none "kindkeep.types" 348::bM (bO 81) "add_undef" "add_undef" 296 697 205 2 ["tab","t"] .none "kindkeep.types" 348::bM (bO 82) "is_literal" "is_literal" 303 705 207 2 ["tab","t"] .none "kindkeep.types" 348::bM (bO 83) "is_fresh" "is_fresh" 310 713 209 2 ["tab","t","row"] .none "kindkeep.types" 348::bM (bO 84) "regular_one" "regular_one" 317 722 212 2 ["tab","t"] .none "kindkeep.types" 348::jb (bO 85) "common_family" "common_family" 324 730 216 2 .none "kindkeep.types" 348::bM (bO 86) "meet_family" "meet_family" 329 736 220 2 ["tab","parts","found","part","fam"] .none "kindkeep.types" 348::bM (bO 87) "family" "family" 336 747 229 2 ["tab","t","row","kind","whole"] .none "kindkeep.types" 348::bM (bO 88) "is_nullish_family" "is_nullish_family" 343 758 246 1 ["fam"] .none "kindkeep.types" 348::bM (bO 89) "index_kids" "index_kids" 350 765 248 1 ["cell"] .none "kindkeep.types" 348::jb (bO 90) "sig_kids" "sig_kids" 357 772 250 1 .none "kindkeep.types" 348::jb (bO 91) "object_kids" "object_kids" 362 778 256 1 .none "kindkeep.types" 348::jb (bO 92) "row_kids" "row_kids" 367 784 261 1 .none "kindkeep.types" 348::bM (bO 93) "row_binds" "row_binds" 372 790 277 1 ["row"] .none "kindkeep.types" 348::bM (bO 94) "inner_kids" "inner_kids" 379 797 285 2 ["tab","row","out","pid"] .none "kindkeep.types" 348::bM (bO 95) "reached" "reached" 386 807 291 2 ["tab","t","seen","waiting","at"] .none "kindkeep.types" 348::bM (bO 96) "row_free" "row_free" 393 818 300 3 ["row","free","kids","out","kid","pid"] .none "kindkeep.types" 348::jb (bO 97) "free_round" "free_round" 400 830 311 3 .none "kindkeep.types" 348::jb (bO 98) "free_params" "free_params" 405 836 318 2 .none "kindkeep.types" 348::bM (bO 99) "has_params" "has_params" 410 842 334 2 ["tab","t"] .none "kindkeep.types" 348::[bW [.int 0 852]]::bM (bO 101) "may_be_nullish" "may_be_nullish" 418 853 337 3 ["tab","t","deep","part","row","bound"] (.ref 417) "kindkeep.typeops" 850::bM (bO 102) "mapped_may_be_nullish" "mapped_may_be_nullish" 425 865 353 3 ["tab","row","deep","keys"] .none "kindkeep.typeops" 850::jb (bO 103) "meet_may_be_nullish" "meet_may_be_nullish" 432 875 356 3 .none "kindkeep.typeops" 850::[bW [.int 1 350,.int 2 352,.int 3 354,.int 4 356,.int 5 358],bW [.int 11 370,.int 12 372]]::bM (bO 108) "final_parts" "final_parts" 439 887 365 2 ["host","t","out","seen","waiting","at","row","more"] .none "kindkeep.shapes" 881::bM (bO 109) "plain_shape" "plain_shape" 446 901 381 2 ["tab","t","turn","row"] .none "kindkeep.shapes" 881::[bW [],dY "builtin_function_or_method" [.builtin "type.__prepare__",.type "type"],gf P [("__module__",924,(.str "kindkeep.hosts" 911)),("__qualname__",926,(.str "Thin" 925)),("__firstlineno__",928,(.int 399 927)),("__init__",936,(.ref 466)),("force",944,(.ref 473)),("put_deferred",952,(.ref 480)),("put_cond",961,(.ref 487)),("lay_row",970,(.ref 494)),("bound",978,(.ref 501)),("shape",986,(.ref 508)),("fits",995,(.ref 515)),("lies",1004,(.ref 522)),("infers",1014,(.ref 529)),("tpl_fits",1023,(.ref 536)),("shape_fits",1032,(.ref 543)),("put_in",1041,(.ref 550)),("own_sig",1050,(.ref 557)),("forget",1057,(.ref 564)),("list_prop",1066,(.ref 571)),("list_index",1074,(.ref 578)),("elem_met",1082,(.ref 585)),("error_class",1089,(.ref 592)),("__static_attributes__",1095,(.ref 593))] 23,bW [],fl [.int 401 0,.int 4 0,.ref 465,.int 408 0,.int 4 0,.ref 472,.int 411 0,.int 4 0,.ref 479,.int 414 0,.int 4 0,.ref 486,.int 417 0,.int 4 0,.ref 493,.int 420 0,.int 4 0,.ref 500,.int 423 0,.int 4 0,.ref 507,.int 426 0,.int 4 0,.ref 514,.int 429 0,.int 4 0,.ref 521,.int 432 0,.int 4 0,.ref 528,.int 435 0,.int 4 0,.ref 535,.int 438 0,.int 4 0,.ref 542,.int 441 0,.int 4 0,.ref 549,.int 444 0,.int 4 0,.ref 556,.int 447 0,.int 4 0,.ref 563,.int 450 0,.int 4 0,.ref 570,.int 453 0,.int 4 0,.ref 577,.int 456 0,.int 4 0,.ref 584,.int 459 0,.int 4 0,.ref 591],mm "Thin" 919 399 456,ms 458 455 "kindkeep.hosts" 911]::bM (dV 113 0) "__init__" "Thin.__init__" 460 929 401 2 ["self","tab"] .none "kindkeep.hosts" 911::bM (dV 113 1) "force" "Thin.force" 467 937 408 2 ["self","t"] .none "kindkeep.hosts" 911::bM (dV 113 2) "put_deferred" "Thin.put_deferred" 474 945 411 2 ["self","row"] .none "kindkeep.hosts" 911::bM (dV 113 3) "put_cond" "Thin.put_cond" 481 953 414 3 ["self","row","mapping"] .none "kindkeep.hosts" 911::bM (dV 113 4) "lay_row" "Thin.lay_row" 488 962 417 3 ["self","row","mapping"] .none "kindkeep.hosts" 911::bM (dV 113 5) "bound" "Thin.bound" 495 971 420 2 ["self","t"] .none "kindkeep.hosts" 911::bM (dV 113 6) "shape" "Thin.shape" 502 979 423 2 ["self","t"] .none "kindkeep.hosts" 911::bM (dV 113 7) "fits" "Thin.fits" 509 987 426 3 ["self","s","t"] .none "kindkeep.hosts" 911::bM (dV 113 8) "lies" "Thin.lies" 516 996 429 3 ["self","s","t"] .none "kindkeep.hosts" 911::bM (dV 113 9) "infers" "Thin.infers" 523 1005 432 4 ["self","pids","check","ext"] .none "kindkeep.hosts" 911::bM (dV 113 10) "tpl_fits" "Thin.tpl_fits" 530 1015 435 3 ["self","s","t"] .none "kindkeep.hosts" 911::bM (dV 113 11) "shape_fits" "Thin.shape_fits" 537 1024 438 3 ["self","s","t"] .none "kindkeep.hosts" 911::bM (dV 113 12) "put_in" "Thin.put_in" 544 1033 441 3 ["self","t","mapping"] .none "kindkeep.hosts" 911::bM (dV 113 13) "own_sig" "Thin.own_sig" 551 1042 444 3 ["self","s","erased"] .none "kindkeep.hosts" 911::bM (dV 113 14) "forget" "Thin.forget" 558 1051 447 1 ["self"] .none "kindkeep.hosts" 911::bM (dV 113 15) "list_prop" "Thin.list_prop" 565 1058 450 3 ["self","t","name"] .none "kindkeep.hosts" 911::bM (dV 113 16) "list_index" "Thin.list_index" 572 1067 453 2 ["self","t"] .none "kindkeep.hosts" 911::bM (dV 113 17) "elem_met" "Thin.elem_met" 579 1075 456 2 ["self","kinds"] .none "kindkeep.hosts" 911::bM (dV 113 18) "error_class" "Thin.error_class" 586 1083 459 1 ["self"] .none "kindkeep.hosts" 911::[bW [.str "deep" 1090,.str "lib" 1091,.str "most_deep" 1092,.str "most_rounds" 1093,.str "tab" 1094],gf P [("__module__",924,(.str "kindkeep.hosts" 911)),("__firstlineno__",928,(.int 399 927)),("__init__",936,(.ref 466)),("force",944,(.ref 473)),("put_deferred",952,(.ref 480)),("put_cond",961,(.ref 487)),("lay_row",970,(.ref 494)),("bound",978,(.ref 501)),("shape",986,(.ref 508)),("fits",995,(.ref 515)),("lies",1004,(.ref 522)),("infers",1014,(.ref 529)),("tpl_fits",1023,(.ref 536)),("shape_fits",1032,(.ref 543)),("put_in",1041,(.ref 550)),("own_sig",1050,(.ref 557)),("forget",1057,(.ref 564)),("list_prop",1066,(.ref 571)),("list_index",1074,(.ref 578)),("elem_met",1082,(.ref 585)),("error_class",1089,(.ref 592)),("__static_attributes__",1095,(.ref 593)),("__dict__",1097,(.ref 596)),("__weakref__",1099,(.ref 597)),("__doc__",1100,.none)] 4,ky "Thin" [.type "object"] [.ref 595,.type "object"] 594 [] [aa,aa,(D (.str "Thin" 917)),(D (.str "Thin" 925)),(D (.builtin "object.__new__")),(D (.bool ae))],dY "getset_descriptor" [.str "__dict__" 1096,.ref 595,.builtin "function.__dict__",.builtin "function.__dict__#set"],dY "getset_descriptor" [.str "__weakref__" 1098,.ref 595,.builtin "ExceptionGroup.__weakref__",.none],dY "super" [.ref 595,.ref 595,.ref 595],dY "builtin_function_or_method" [.builtin "object.__init_subclass__",.ref 595]]::bM (bO 114) "bound_of" "bound_of" 600 1103 461 2 ["tab","t","row","bound"] .none "kindkeep.hosts" 911::jb (bO 115) "is_digits" "is_digits" 607 1113 467 1 .none "kindkeep.hosts" 911::[bW [.int 1 350,.int 2 352,.int 3 354,.int 4 356,.int 5 358],bW [.int 11 370,.int 12 372],bW [.int 8 364,.int 9 366]]::[]
noncomputable def PH(P:eb):BT:=Ax (lf (PI P) (V5 P)) 158 (acM P)
noncomputable def Em:I (aK×H×al):=("DEFERRED_ROWS",1146,(.ref 615))::("OPEN_ROWS",1147,(.ref 617))::("MAX_OPEN",1149,(.int 60 1148))::("MOST_LOOKS",1151,(.int 20000 1150))::("RelRule",1220,(.ref 662))::("Rel",1313,(.ref 725))::("by_rule",1324,(.ref 736))::("silent_with",1333,(.ref 743))::("twin_of",1340,(.ref 750))::("cut_back",1348,(.ref 757))::("settled",1356,(.ref 764))::("ask_kinds",1367,(.ref 771))::("relbase_kept",1379,(.ref 778))::("close_trail",1388,(.ref 785))::("tells",1395,(.ref 792))::("taken_wider",1404,(.ref 799))::("simple_related",1417,(.ref 806))::("tops_related",1426,(.ref 813))::("unknown_told",1435,(.ref 820))::("is_numeric_enum",1442,(.ref 827))::("values_related",1453,(.ref 834))::("number_to_enum",1463,(.ref 841))::("structured",1475,(.ref 848))::("rule_for",1483,(.ref 855))::("from_union",1493,(.ref 862))::("some_part",1505,(.ref 869))::("lay_again",1514,(.ref 876))::("to_union",1526,(.ref 883))::("same_kind",1538,(.ref 890))::("each_in",1548,(.ref 897))::("own_param",1558,(.ref 904))::("pid_bound",1567,(.ref 911))::("HIDDEN",1571,(.int 24 1570))::("MEMBER_ROWS",1572,(.ref 913))::("LIST_NAMES",1593,(.ref 914))::("shown_keys",1599,(.ref 919))::("named_keys",1608,(.ref 926))::("loosely_kept",1614,(.ref 931))::("may_stay",1620,(.ref 936))::("member_of",1629,(.ref 943))::("mapped_to_param",1639,(.ref 950))::("is_empty_object",1646,(.ref 957))::("to_mapped",1658,(.ref 964))::("index_noted",1669,(.ref 971))::("keeps_marks",1679,(.ref 978))::("own_members",1689,(.ref 985))::("has_readonly",1695,(.ref 990))::("by_members",1708,(.ref 997))::("mark_rank",1715,(.ref 1004))::("keys_lie",1726,(.ref 1011))::("keys_and_marks",1735,(.ref 1018))::("mark_notes",1744,(.ref 1025))::("key_notes",1755,(.ref 1032))::("mapped_pair",1765,(.ref 1039))::("BoundHost",1799,(.ref 1063))::("ParamRule",1827,(.ref 1082))::("param_related",1838,(.ref 1091))::("install_rel_params",1845,(.ref 1098))::("_law_base",1877,(.ref 1099))::("_law_take",1887,(.ref 1106))::("_law_kind",1893,(.ref 1111))::("_law_declared",1902,(.ref 1118))::("_law_thing",1915,(.ref 1125))::("_law_over",1928,(.ref 1132))::("_law_told",1934,(.ref 1137))::("_law_goes",1947,(.ref 1144))::("_law_nothing",1975,(.ref 1151))::("_law_object",1995,(.ref 1158))::("_law_written",2001,(.ref 1163))::("_law_back",2030,(.ref 1170))::("law",2036,(.ref 1175))::[]
noncomputable def aee:I al:= .int 489 0:: .int 0 0:: .ref 623:: .int 505 0:: .int 0 0:: .ref 672:: .int 541 0:: .int 0 0:: .ref 735:: .int 544 0:: .int 0 0:: .ref 742:: .int 549 0:: .int 0 0:: .ref 749:: .int 555 0:: .int 0 0:: .ref 756:: .int 559 0:: .int 0 0:: .ref 763:: .int 564 0:: .int 0 0:: .ref 770:: .int 582 0:: .int 0 0:: .ref 777:: .int 607 0:: .int 0 0:: .ref 784:: .int 613 0:: .int 0 0:: .ref 791:: .int 615 0:: .int 0 0:: .ref 798:: .int 618 0:: .int 0 0:: .ref 805:: .int 634 0:: .int 0 0:: .ref 812:: .int 651 0:: .int 0 0:: .ref 819:: .int 658 0:: .int 0 0:: .ref 826:: .int 660 0:: .int 0 0:: .ref 833:: .int 674 0:: .int 0 0:: .ref 840:: .int 681 0:: .int 0 0:: .ref 847:: .int 690 0:: .int 0 0:: .ref 854:: .int 700 0:: .int 0 0:: .ref 861:: .int 708 0:: .int 0 0:: .ref 868:: .int 722 0:: .int 0 0:: .ref 875:: .int 728 0:: .int 0 0:: .ref 882:: .int 741 0:: .int 0 0:: .ref 889:: .int 750 0:: .int 0 0:: .ref 896:: .int 756 0:: .int 0 0:: .ref 903:: .int 758 0:: .int 0 0:: .ref 910:: .int 765 0:: .int 0 0:: .ref 918:: .int 770 0:: .int 0 0:: .ref 925:: .int 775 0:: .int 0 0:: .ref 930:: .int 782 0:: .int 0 0:: .ref 935:: .int 784 0:: .int 0 0:: .ref 942:: .int 786 0:: .int 0 0:: .ref 949:: .int 796 0:: .int 0 0:: .ref 956:: .int 798 0:: .int 0 0:: .ref 963:: .int 817 0:: .int 0 0:: .ref 970:: .int 826 0:: .int 0 0:: .ref 977:: .int 829 0:: .int 0 0:: .ref 984:: .int 838 0:: .int 0 0:: .ref 989:: .int 842 0:: .int 0 0:: .ref 996:: .int 858 0:: .int 0 0:: .ref 1003:: .int 860 0:: .int 0 0:: .ref 1010:: .int 866 0:: .int 0 0:: .ref 1017:: .int 872 0:: .int 0 0:: .ref 1024:: .int 877 0:: .int 0 0:: .ref 1031:: .int 892 0:: .int 0 0:: .ref 1038:: .int 904 0:: .int 0 0:: .ref 1045:: .int 912 0:: .int 0 0:: .ref 1071:: .int 916 0:: .int 0 0:: .ref 1090:: .int 922 0:: .int 0 0:: .ref 1097:: .int 926 0:: .int 0 0:: .ref 1105:: .int 931 0:: .int 0 0:: .ref 1110:: .int 934 0:: .int 0 0:: .ref 1117:: .int 938 0:: .int 0 0:: .ref 1124:: .int 949 0:: .int 0 0:: .ref 1131:: .int 968 0:: .int 0 0:: .ref 1136:: .int 974 0:: .int 0 0:: .ref 1143:: .int 982 0:: .int 0 0:: .ref 1150:: .int 1007 0:: .int 0 0:: .ref 1157:: .int 1027 0:: .int 0 0:: .ref 1162:: .int 1061 0:: .int 0 0:: .ref 1169:: .int 1084 0:: .int 0 0:: .ref 1174::[]
noncomputable def V7(P:eb):I (H×db):=[(3,gf P (("__name__",165,(.str "law_xm0558_01" 1846))::(w3++(z8++(Em)))) 205),(12,fl (Gg++(Of++(aee)))),(595,ky "Thin" [.type "object"] [.ref 595,.type "object"] 594 [.ref 1063] [aa,aa,(D (.str "Thin" 917)),(D (.str "Thin" 925)),(D (.builtin "object.__new__")),(D (.bool ae))])]
noncomputable def acO(P:eb):I (I db):=[bW [.int 10 368,.int 14 376,.int 15 378,.int 16 380,.int 17 382,.int 18 384,.int 19 386],bW [.int 6 360,.int 7 362],bW [.int 6 360,.int 7 362,.int 10 368,.int 14 376,.int 15 378,.int 16 380,.int 17 382,.int 18 384,.int 19 386],bW [],dY "builtin_function_or_method" [.builtin "type.__prepare__",.type "type"],gf P [("__module__",1159,(.str "kindkeep.relbase" 1119)),("__qualname__",1161,(.str "RelRule" 1160)),("__firstlineno__",1163,(.int 489 1162)),("holds",1173,(.ref 631)),("loose",1183,(.ref 638)),("sig",1193,(.ref 645)),("blank",1202,(.ref 652)),("tells",1212,(.ref 659)),("__static_attributes__",1213,(.ref 660))] 9,bW [],fl [.int 491 0,.int 4 0,.ref 630,.int 494 0,.int 4 0,.ref 637,.int 497 0,.int 4 0,.ref 644,.int 500 0,.int 4 0,.ref 651,.int 503 0,.int 4 0,.ref 658],mm "RelRule" 1154 489 621,ms 623 620 "kindkeep.relbase" 1119]::bM (dV 135 0) "holds" "RelRule.holds" 625 1164 491 4 ["self","rel","s","t"] .none "kindkeep.relbase" 1119::bM (dV 135 1) "loose" "RelRule.loose" 632 1174 494 4 ["self","rel","s","t"] .none "kindkeep.relbase" 1119::bM (dV 135 2) "sig" "RelRule.sig" 639 1184 497 4 ["self","rel","s","t"] .none "kindkeep.relbase" 1119::bM (dV 135 3) "blank" "RelRule.blank" 646 1194 500 3 ["self","rel","s"] .none "kindkeep.relbase" 1119::bM (dV 135 4) "tells" "RelRule.tells" 653 1203 503 4 ["self","rel","parts","name"] .none "kindkeep.relbase" 1119::[bW [],gf P [("__module__",1159,(.str "kindkeep.relbase" 1119)),("__firstlineno__",1163,(.int 489 1162)),("holds",1173,(.ref 631)),("loose",1183,(.ref 638)),("sig",1193,(.ref 645)),("blank",1202,(.ref 652)),("tells",1212,(.ref 659)),("__static_attributes__",1213,(.ref 660)),("__dict__",1215,(.ref 663)),("__weakref__",1217,(.ref 664)),("__doc__",1218,.none)] 4,ky "RelRule" [.type "object"] [.ref 662,.type "object"] 661 [.ref 1082] [aa,aa,(D (.str "RelRule" 1152)),(D (.str "RelRule" 1160)),(D (.builtin "object.__new__")),(D (.bool ae))],dY "getset_descriptor" [.str "__dict__" 1214,.ref 662,.builtin "function.__dict__",.builtin "function.__dict__#set"],dY "getset_descriptor" [.str "__weakref__" 1216,.ref 662,.builtin "ExceptionGroup.__weakref__",.none],dY "super" [.ref 662,.ref 662,.ref 662],dY "builtin_function_or_method" [.builtin "object.__init_subclass__",.ref 662],bW [],dY "builtin_function_or_method" [.builtin "type.__prepare__",.type "type"],gf P [("__module__",1228,(.str "kindkeep.relbase" 1119)),("__qualname__",1230,(.str "Rel" 1229)),("__firstlineno__",1232,(.int 505 1231)),("__init__",1241,(.ref 680)),("ask",1250,(.ref 687)),("note",1258,(.ref 694)),("same",1267,(.ref 701)),("mark",1274,(.ref 708)),("back",1282,(.ref 715)),("infer_sig",1291,(.ref 722)),("__static_attributes__",1306,(.ref 723))] 11,bW [],fl [.int 507 0,.int 4 0,.ref 679,.int 523 0,.int 4 0,.ref 686,.int 526 0,.int 4 0,.ref 693,.int 530 0,.int 4 0,.ref 700,.int 533 0,.int 4 0,.ref 707,.int 536 0,.int 4 0,.ref 714,.int 539 0,.int 4 0,.ref 721],mm "Rel" 1223 505 670,ms 672 669 "kindkeep.relbase" 1119]::bM (dV 136 0) "__init__" "Rel.__init__" 674 1233 507 3 ["self","host","mode"] .none "kindkeep.relbase" 1119::bM (dV 136 1) "ask" "Rel.ask" 681 1242 523 3 ["self","s","t"] .none "kindkeep.relbase" 1119::bM (dV 136 2) "note" "Rel.note" 688 1251 526 2 ["self","code"] .none "kindkeep.relbase" 1119::bM (dV 136 3) "same" "Rel.same" 695 1259 530 3 ["self","s","t"] .none "kindkeep.relbase" 1119::bM (dV 136 4) "mark" "Rel.mark" 702 1268 533 1 ["self"] .none "kindkeep.relbase" 1119::bM (dV 136 5) "back" "Rel.back" 709 1275 536 2 ["self","spot"] .none "kindkeep.relbase" 1119::bM (dV 136 6) "infer_sig" "Rel.infer_sig" 716 1283 539 3 ["self","s","t"] .none "kindkeep.relbase" 1119::[bW [.str "assumed" 1292,.str "at" 1293,.str "deep" 1294,.str "host" 1295,.str "known" 1296,.str "looks" 1297,.str "missing" 1298,.str "mode" 1299,.str "notes" 1300,.str "road" 1301,.str "rules" 1302,.str "telling" 1303,.str "trail" 1304,.str "twin" 1305],gf P [("__module__",1228,(.str "kindkeep.relbase" 1119)),("__firstlineno__",1232,(.int 505 1231)),("__init__",1241,(.ref 680)),("ask",1250,(.ref 687)),("note",1258,(.ref 694)),("same",1267,(.ref 701)),("mark",1274,(.ref 708)),("back",1282,(.ref 715)),("infer_sig",1291,(.ref 722)),("__static_attributes__",1306,(.ref 723)),("__dict__",1308,(.ref 726)),("__weakref__",1310,(.ref 727)),("__doc__",1311,.none)] 4,ky "Rel" [.type "object"] [.ref 725,.type "object"] 724 [] [aa,aa,(D (.str "Rel" 1221)),(D (.str "Rel" 1229)),(D (.builtin "object.__new__")),(D (.bool ae))],dY "getset_descriptor" [.str "__dict__" 1307,.ref 725,.builtin "function.__dict__",.builtin "function.__dict__#set"],dY "getset_descriptor" [.str "__weakref__" 1309,.ref 725,.builtin "ExceptionGroup.__weakref__",.none],dY "super" [.ref 725,.ref 725,.ref 725],dY "builtin_function_or_method" [.builtin "object.__init_subclass__",.ref 725]]::bM (bO 137) "by_rule" "by_rule" 730 1314 541 4 ["rel","number","s","t","rule"] .none "kindkeep.relbase" 1119::bM (bO 138) "silent_with" "silent_with" 737 1325 544 2 ["rel","mode","made"] .none "kindkeep.relbase" 1119::bM (bO 139) "twin_of" "twin_of" 744 1334 549 1 ["rel"] .none "kindkeep.relbase" 1119::bM (bO 140) "cut_back" "cut_back" 751 1341 555 2 ["rel","spot"] .none "kindkeep.relbase" 1119::bM (bO 141) "settled" "settled" 758 1349 559 2 ["host","t"] .none "kindkeep.relbase" 1119::bM (bO 142) "ask_kinds" "ask_kinds" 765 1357 564 3 ["rel","s","t","rows","told"] .none "kindkeep.relbase" 1119::bM (bO 143) "relbase_kept" "relbase_kept" 772 1368 582 3 ["rel","s","t","key","spot","answer"] .none "kindkeep.relbase" 1119::bM (bO 144) "close_trail" "close_trail" 779 1380 607 2 ["rel","clean","key"] .none "kindkeep.relbase" 1119::bM (bO 145) "tells" "tells" 786 1389 613 1 ["rel"] .none "kindkeep.relbase" 1119::bM (bO 146) "taken_wider" "taken_wider" 793 1396 615 3 ["rel","s","t"] .none "kindkeep.relbase" 1119::bM (bO 147) "simple_related" "simple_related" 800 1405 618 3 ["rel","s","t","told","rows","a","b"] .none "kindkeep.relbase" 1119::bM (bO 148) "tops_related" "tops_related" 807 1418 634 3 ["rel","s","t"] .none "kindkeep.relbase" 1119::bM (bO 149) "unknown_told" "unknown_told" 814 1427 651 2 ["rel","t","parts"] .none "kindkeep.relbase" 1119::bM (bO 150) "is_numeric_enum" "is_numeric_enum" 821 1436 658 1 ["row"] .none "kindkeep.relbase" 1119::bM (bO 151) "values_related" "values_related" 828 1443 660 3 ["rel","s","t","a","b"] .none "kindkeep.relbase" 1119::bM (bO 152) "number_to_enum" "number_to_enum" 835 1454 674 4 ["rel","s","a","b"] .none "kindkeep.relbase" 1119::bM (bO 153) "structured" "structured" 842 1464 681 3 ["rel","s","t","rows","a","b"] .none "kindkeep.relbase" 1119::bM (bO 154) "rule_for" "rule_for" 849 1476 690 2 ["a","b"] .none "kindkeep.relbase" 1119::bM (bO 155) "from_union" "from_union" 856 1484 700 3 ["rel","s","t","part"] .none "kindkeep.relbase" 1119::bM (bO 156) "some_part" "some_part" 863 1494 708 3 ["rel","s","parts","lax","part","spot"] .none "kindkeep.relbase" 1119::bM (bO 157) "lay_again" "lay_again" 870 1506 722 2 ["rel","lax","key"] .none "kindkeep.relbase" 1119::bM (bO 158) "to_union" "to_union" 877 1515 728 3 ["rel","s","t","tab","parts","kind"] .none "kindkeep.relbase" 1119::bM (bO 159) "same_kind" "same_kind" 884 1527 741 3 ["rel","s","t","rows","a","b"] .none "kindkeep.relbase" 1119::bM (bO 160) "each_in" "each_in" 891 1539 750 3 ["rel","ss","ts","s"] .none "kindkeep.relbase" 1119::bM (bO 162) "own_param" "own_param" 898 1551 756 2 ["tab","pid"] .none "kindkeep.relsig" 1549::bM (bO 163) "pid_bound" "pid_bound" 905 1559 758 2 ["tab","pid","bound"] .none "kindkeep.relsig" 1549::[bW [.int 7 362],bW [.int 8 364,.int 9 366,.int 7 362],bW [.str "charAt" 1573,.str "concat" 1574,.str "every" 1575,.str "filter" 1576,.str "forEach" 1577,.str "includes" 1578,.str "indexOf" 1579,.str "join" 1580,.str "length" 1581,.str "map" 1582,.str "pop" 1583,.str "push" 1584,.str "reduce" 1585,.str "reverse" 1586,.str "shift" 1587,.str "slice" 1588,.str "some" 1589,.str "toLowerCase" 1590,.str "toString" 1591,.str "toUpperCase" 1592]]::jb (bO 168) "shown_keys" "shown_keys" 915 1594 765 3 .none "kindkeep.relkeys" 1568::bM (bO 169) "named_keys" "named_keys" 920 1600 770 2 ["host","s","kind"] .none "kindkeep.relkeys" 1568::jb (bO 170) "loosely_kept" "loosely_kept" 927 1609 775 2 .none "kindkeep.relkeys" 1568::jb (bO 171) "may_stay" "may_stay" 932 1615 782 2 .none "kindkeep.relkeys" 1568::bM (bO 172) "member_of" "member_of" 937 1621 784 3 ["rel","s","row"] .none "kindkeep.relkeys" 1568::bM (bO 173) "mapped_to_param" "mapped_to_param" 944 1630 786 3 ["rel","t","a","keys"] .none "kindkeep.relkeys" 1568::bM (bO 174) "is_empty_object" "is_empty_object" 951 1640 796 1 ["row"] .none "kindkeep.relkeys" 1568::bM (bO 175) "to_mapped" "to_mapped" 958 1647 798 4 ["rel","s","a","b","keys","held"] .none "kindkeep.relkeys" 1568::bM (bO 176) "index_noted" "index_noted" 965 1659 817 3 ["rel","s","keys","host","shape"] .none "kindkeep.relkeys" 1568::bM (bO 177) "keeps_marks" "keeps_marks" 972 1670 826 3 ["tab","s","keys","row"] .none "kindkeep.relkeys" 1568::bM (bO 178) "own_members" "own_members" 979 1680 829 3 ["rel","s","b","kept"] .none "kindkeep.relkeys" 1568::jb (bO 179) "has_readonly" "has_readonly" 986 1690 838 2 .none "kindkeep.relkeys" 1568::bM (bO 180) "by_members" "by_members" 991 1696 842 3 ["rel","s","b","host","want","member","kept"] .none "kindkeep.relkeys" 1568::bM (bO 181) "mark_rank" "mark_rank" 998 1709 858 1 ["mark"] .none "kindkeep.relkeys" 1568::bM (bO 182) "keys_lie" "keys_lie" 1005 1716 860 3 ["rel","want","have","a","b"] .none "kindkeep.relkeys" 1568::bM (bO 183) "keys_and_marks" "keys_and_marks" 1012 1727 866 3 ["rel","a","b"] .none "kindkeep.relkeys" 1568::bM (bO 184) "mark_notes" "mark_notes" 1019 1736 872 3 ["rel","a","b"] .none "kindkeep.relkeys" 1568::bM (bO 185) "key_notes" "key_notes" 1026 1745 877 3 ["rel","a","b","rows","all_keys"] .none "kindkeep.relkeys" 1568::bM (bO 186) "mapped_pair" "mapped_pair" 1033 1756 892 3 ["rel","a","b","template"] .none "kindkeep.relkeys" 1568::[bW [.ref 595],dY "builtin_function_or_method" [.builtin "type.__prepare__",.type "type"],gf P [("__module__",1775,(.str "kindkeep.rawhost" 1766)),("__qualname__",1777,(.str "BoundHost" 1776)),("__firstlineno__",1779,(.int 904 1778)),("bound",1787,(.ref 1053)),("shape",1795,(.ref 1060)),("__static_attributes__",1796,(.ref 1061))] 6,bW [],fl [.int 906 0,.int 4 0,.ref 1052,.int 909 0,.int 4 0,.ref 1059],mm "BoundHost" 1770 904 1043,ms 1045 1042 "kindkeep.rawhost" 1766]::bM (dV 188 0) "bound" "BoundHost.bound" 1047 1780 906 2 ["self","t"] .none "kindkeep.rawhost" 1766::bM (dV 188 1) "shape" "BoundHost.shape" 1054 1788 909 2 ["self","t"] .none "kindkeep.rawhost" 1766::[bW [],gf P [("__module__",1775,(.str "kindkeep.rawhost" 1766)),("__firstlineno__",1779,(.int 904 1778)),("bound",1787,(.ref 1053)),("shape",1795,(.ref 1060)),("__static_attributes__",1796,(.ref 1061)),("__doc__",1797,.none)] 2,ky "BoundHost" [.ref 595] [.ref 1063,.ref 595,.type "object"] 1062 [] [(D (.ref 1040)),aa,(D (.str "BoundHost" 1768)),(D (.str "BoundHost" 1776)),(D (.builtin "object.__new__")),(D (.bool ae))],dY "super" [.ref 1063,.ref 1063,.ref 1063],dY "builtin_function_or_method" [.builtin "object.__init_subclass__",.ref 1063],bW [.ref 662],dY "builtin_function_or_method" [.builtin "type.__prepare__",.type "type"],gf P [("__module__",1809,(.str "kindkeep.relopen" 1800)),("__qualname__",1811,(.str "ParamRule" 1810)),("__firstlineno__",1813,(.int 912 1812)),("holds",1823,(.ref 1079)),("__static_attributes__",1824,(.ref 1080))] 5,bW [],fl [.int 914 0,.int 4 0,.ref 1078],mm "ParamRule" 1804 912 1069,ms 1071 1068 "kindkeep.relopen" 1800]::bM (dV 190 0) "holds" "ParamRule.holds" 1073 1814 914 4 ["self","rel","s","t"] .none "kindkeep.relopen" 1800::[bW [],gf P [("__module__",1809,(.str "kindkeep.relopen" 1800)),("__firstlineno__",1813,(.int 912 1812)),("holds",1823,(.ref 1079)),("__static_attributes__",1824,(.ref 1080)),("__doc__",1825,.none)] 2,ky "ParamRule" [.ref 662] [.ref 1082,.ref 662,.type "object"] 1081 [] [(D (.ref 1066)),aa,(D (.str "ParamRule" 1802)),(D (.str "ParamRule" 1810)),(D (.builtin "object.__new__")),(D (.bool ae))],dY "super" [.ref 1082,.ref 1082,.ref 1082],dY "builtin_function_or_method" [.builtin "object.__init_subclass__",.ref 1082]]::bM (bO 191) "param_related" "param_related" 1085 1828 916 3 ["rel","s","t","row","bound"] .none "kindkeep.relopen" 1800::bM (bO 192) "install_rel_params" "install_rel_params" 1092 1839 922 1 ["rel"] .none "kindkeep.relopen" 1800::[bW [.int 0 1848,.int 0 1849,.int 0 1850,.int 1 1851,.int 1 1852,.int 0 1853,.int 0 1854,.int 0 1855,.int 0 1856,.int 0 1857,.int 0 1858,.int 0 1859,.int 0 1860,.int 1 1861,.int 5 1862,.int 0 1863,.int 0 1864,.int 0 1865,.int 3 1866,.int 1 1867,.int 19 1868,.int 0 1869,.int 0 1870,.int 0 1871,.int 0 1872,.int 0 1873,.int 0 1874,.int 1 1875,.int 0 1876]]::bM (bO 195) "_law_take" "_law_take" 1100 1878 926 2 ["d","n","at","x"] .none "law_xm0558_01" 1846::jb (bO 196) "_law_kind" "_law_kind" 1107 1888 931 2 .none "law_xm0558_01" 1846::bM (bO 197) "_law_declared" "_law_declared" 1112 1894 934 2 ["tab","body","decl"] .none "law_xm0558_01" 1846::bM (bO 198) "_law_thing" "_law_thing" 1119 1903 938 2 ["d","tab","more","name","props","sig","t"] .none "law_xm0558_01" 1846::bM (bO 199) "_law_over" "_law_over" 1126 1916 949 2 ["d","tab","way","t","light","other","also"] .none "law_xm0558_01" 1846::jb (bO 200) "_law_told" "_law_told" 1133 1929 968 3 .none "law_xm0558_01" 1846::bM (bO 201) "_law_goes" "_law_goes" 1138 1935 974 5 ["rel","s","row","lets","want","held","go"] .none "law_xm0558_01" 1846::bM (bO 202) "_law_nothing" "_law_nothing" 1145 1948 982 4 ["d","tab","rel","mode","which","x","stays","how","opt","form","named","over","own","goal","row","more","sig","cells","calls","s","lets","want"] .none "law_xm0558_01" 1846::bM (bO 203) "_law_object" "_law_object" 1152 1976 1007 2 ["d","tab","table","props","name","y","mask","closed","hidden","free","flags","way","cell","t"] .none "law_xm0558_01" 1846::jb (bO 204) "_law_written" "_law_written" 1159 1996 1027 4 .none "law_xm0558_01" 1846::bM (bO 205) "_law_back" "_law_back" 1164 2002 1061 4 ["d","tab","rel","mode","t","w","over","k","how","form","opt","ro","named","keys","own","mine","goal","fits","lets","want","held","row","go"] .none "law_xm0558_01" 1846::jb (bO 206) "law" "law" 1171 2031 1084 1 .none "law_xm0558_01" 1846::[]
noncomputable def yj(P:eb):BT:=Ax (lf (PH P) (V7 P)) 615 (acO P)
end
section
noncomputable abbrev bd:I gV:=behindTheImports fx
noncomputable def lB:e6:= {scope:=fx.main.scope,locals:=mainNs,globals:=mainNs,cells:=[],code:=RG 13,frame:=D 14}
noncomputable def ig:c3:=⟨0,0,0,0⟩
noncomputable def a6:c3:= {line:=93,col:=0,endLine:=93,endCol:=9}
noncomputable def bl:c3:= {line:=484,col:=0,endLine:=484,endCol:=11}
noncomputable def cF:c3:= {line:=1084,col:=0,endLine:=1098,endCol:=48}
noncomputable abbrev h4:Code:=Code.body bd lB
noncomputable abbrev jP:aJ al:=D (.ref 6)
noncomputable abbrev o7:I Frame:=[topFrame ig]
noncomputable def kG(w:World)(os:iM):Cz:=⟨PJ w.params,15, {},⟨[]⟩, {},187,os⟩
noncomputable def s1(w:World)(os:iM):Cz:=⟨PI w.params,158, {},⟨[]⟩, {},492,os⟩
noncomputable def s2(w:World)(os:iM):Cz:=⟨PH w.params,615, {},⟨[]⟩, {},1146,os⟩
noncomputable def s3(w:World)(os:iM):Cz:=⟨yj w.params,1176, {},⟨[]⟩, {},2037,os⟩
end
section
open PySem.W.Fast (tw10110043849684766642 tw14364793385576792824)
theorem tN(w:World)(os:iM):tw10110043849684766642 tw14364793385576792824 fx (w.withFollow "special-get-raises" aw) 11 jP 1 1939 (kG (w.withFollow "special-get-raises" aw) os) (piecesOf (bd.take 67) lB h4 ig o7)=D (.next,s1 (w.withFollow "special-get-raises" aw) os,h4,a6):=by kernel_rfl
theorem ai9(w:World)(os:iM):tw10110043849684766642 tw14364793385576792824 fx (w.withFollow "special-get-raises" ae) 11 jP 1 1939 (kG (w.withFollow "special-get-raises" ae) os) (piecesOf (bd.take 67) lB h4 ig o7)=D (.next,s1 (w.withFollow "special-get-raises" ae) os,h4,a6):=by kernel_rfl
theorem Qy(w:World)(os:iM):tw10110043849684766642 tw14364793385576792824 fx w 11 jP 1 2744 (s1 w os) (piecesOf ((bd.drop 67).take 64) lB h4 a6 o7)=D (.next,s2 w os,h4,bl):=by kernel_rfl
theorem ajb(w:World)(os:iM):tw10110043849684766642 tw14364793385576792824 fx w 11 jP 1 3425 (s2 w os) (piecesOf ((bd.drop 67).drop 64) lB h4 bl o7)=D (.next,s3 w os,h4,cF):=by kernel_rfl
end
open PySem.W.Fast (te10110043849684766642 te14364793385576792824 tw10110043849684766642 tw14364793385576792824)
theorem He{p:g9}{w:World}{n b N:H}{ann:aJ al}{s:Cz}{t:Thread}{r}(h:tw10110043849684766642 tw14364793385576792824 p w n ann b N s t=r):segRunT treeTable p w n ann b N s t=r:=by
 rw[te10110043849684766642,te14364793385576792824];exact h
theorem lp(w:World)(os:iM):segRun treeTable fx w 11 jP 1 1939 (kG w os).abs (piecesOf (bd.take 67) lB h4 ig o7)=D (.next,(s1 w os).abs,h4,a6):=RM (He (byRow2 "special-get-raises" (P:=fun w=>tw10110043849684766642 tw14364793385576792824 fx w 11 jP 1 1939 (kG w os) (piecesOf (bd.take 67) lB h4 ig o7)=D (.next,s1 w os,h4,a6)) (fun w=>tN w os) (fun w=>ai9 w os) w))
theorem Cb(w:World)(os:iM):segRun treeTable fx w 11 jP 1 2744 (s1 w os).abs (piecesOf ((bd.drop 67).take 64) lB h4 a6 o7)=D (.next,(s2 w os).abs,h4,bl):=RM (He (Qy w os))
theorem ajf(w:World)(os:iM):segRun treeTable fx w 11 jP 1 3425 (s2 w os).abs (piecesOf ((bd.drop 67).drop 64) lB h4 bl o7)=D (.next,(s3 w os).abs,h4,cF):=RM (He (ajb w os))
theorem vV(w:World)(s:bb):topRun treeTable fx w 11 jP 10 s (restOf [] lB h4 cF [topFrame ig])=D s:=by
 obtain⟨h,g,d,k,os⟩:=s;kernel_rfl
theorem ajj(w:World)(s:bb):segRun treeTable fx w 11 jP 1 10 s (blockOf bd lB h4 ig o7)=D (.next,s,h4,ig):=by
 obtain⟨h,g,d,k,os⟩:=s;kernel_rfl
theorem VT(w:World)(os:iM):topRun treeTable fx w 11 jP (10+(1939+(2744+(3425+10)))) (kG w os).abs ⟨denote treeTable (.body bd lB),h4,ig,[topFrame ig]⟩=D (s3 w os).abs:=by
 refine piece_block (ajj w _) ?_
 have aT:bd=bd.take 67++((bd.drop 67).take 64++((bd.drop 67).drop 64++ [])):=by rw[fi,akb,akb]
 have h:=RK (lp w os) (RK (Cb w os) (RK (ajf w os) (vV w _)))
 rw[<-aT]at h
 exact h
theorem aez(w:World)(os:iM):topGo treeTable fx w 11 jP 12 ⟨boot_heap w.params,kc [],boot_drawn,boot_toks,os⟩ (topStub fx)=D ((kG w os).abs,⟨denote treeTable (.body bd lB),h4,ig,[topFrame ig]⟩):=by kernel_rfl
theorem aim(w:World)(os:iM):topRun treeTable fx w 11 jP (12+(10+(1939+(2744+(3425+10))))) ⟨boot_heap w.params,kc [],boot_drawn,boot_toks,os⟩ (topStub fx)=D (s3 w os).abs:=go_top (aez w os) (VT w os)
section
noncomputable def oI:g9:=view fx [206]
noncomputable def H1(P:eb):bP:=absHeap (yj P) 1176 {}
noncomputable def loose:I aK:=((w3++(z8++Em)).map (·.1)).filter fun k=> !startupNames.contains k && !(k==("law" :aK))
noncomputable def mods:I aK:=importedModules fx.main.body
theorem z1:∀s,fenceModules? fx s=D s:=fun s=>by kernel_rfl
theorem f1:opening fx=plainProg fx.main.scope.names:=by kernel_rfl
theorem ad0(N:H)(ZL:Rh 600 N=ae):∀w:World,(fencedOpening treeTable fx w N).map (fun s=>(s.heap,s.gens,s.drawn,s.toks))=D (boot_heap w.params,kc [],boot_drawn,boot_toks):=boot_open f1 ZL z1
theorem agJ(w:World):((boot_heap w.params).isNs l8 && (kc []:dD GenState).size==0,(boot_heap w.params).objs.size,(boot_heap w.params).nsMap l8 "__annotations__")=(ae,11,jP):=by kernel_rfl
end
section
noncomputable def OY(w:World)(os:iM):bb:=⟨H1 w.params,kc [], {},2037,os⟩
theorem jz(w:World)(os:iM):openSeen oI loose mods (fun _=>ae) ae (OY w os)=openGood oI loose:=by kernel_rfl
end
theorem ab7{p q:g9}{loose mods:I aK}{H0 HF:eb->bP}{FN Fl k₁ M N:H}{ann:aJ al}{DU zQ:Drawn}(hm:importedModules p.main.body=mods)
  (ad1:∀w:World,(fencedOpening treeTable p w N).map (fun s=>(s.heap,s.gens,s.drawn,s.toks))=D (H0 w.params,kc [],DU,Fl))
  (size:∀w:World,((H0 w.params).isNs l8 && (kc []:dD GenState).size==0,(H0 w.params).objs.size,(H0 w.params).nsMap l8 "__annotations__")=(ae,FN,ann))
  (run:∀(w:World) (os:iM),topRun treeTable p w FN ann M ⟨H0 w.params,kc [],DU,Fl,os⟩ (topStub p)=D ⟨HF w.params,kc [],zQ,k₁,os⟩) (le:Rh M N=ae)
  (k6:∀w:World,staticsOk mods (H0 w.params) (HF w.params)=ae) (gE:∀w:World,namesBound p (HF w.params)=ae) (mI:∀(w:World) os,gensDone ⟨HF w.params,kc [],zQ,k₁,os⟩=ae) (lN:∀w:World,laidKept (H0 w.params) (HF w.params)=ae)
  (jz:∀(w:World) os,openSeen q loose mods (fun _=>ae) ae ⟨HF w.params,kc [],zQ,k₁,os⟩=openGood q loose):
  LeftO p q loose (fun _=>ae) (fun s=>s.heap) (fun w=>HF w.params) N:=by
 subst hm
 refine LeftO.of_pieces ad1 size run le fun w=>funext fun os=> ?_
 rw[k6,gE,mI,lN,jz];rfl
theorem k6(w:World):staticsOk mods (boot_heap w.params) (H1 w.params)=ae:=by kernel_rfl
theorem gE(w:World):namesBound fx (H1 w.params)=ae:=by kernel_rfl
theorem mI(w:World)(os:iM):gensDone ⟨H1 w.params,kc [], {},2037,os⟩=ae:=by kernel_rfl
theorem lN(w:World):laidKept (boot_heap w.params) (H1 w.params)=ae:=by kernel_rfl
theorem LO:importedModules fx.main.body=mods:=by unfold mods;exact Hv _
theorem bZ(w:World)(os:iM):D (s3 w os).abs=D (⟨H1 w.params,kc [], {},2037,os⟩:bb):=by kernel_rfl
theorem dq(w:World)(os:iM):topRun treeTable fx w 11 jP (12+(10+(1939+(2744+(3425+10))))) ⟨boot_heap w.params,kc [],boot_drawn,boot_toks,os⟩ (topStub fx)=D ⟨H1 w.params,kc [], {},2037,os⟩:=(aim w os).trans (bZ w os)
theorem pT(w:World)(os:iM):openSeen oI loose mods (fun _=>ae) ae ⟨H1 w.params,kc [], {},2037,os⟩=openGood oI loose:=by have h:=jz w os;unfold OY at h;exact h
theorem ab2:Rh (12+(10+(1939+(2744+(3425+10))))) 9000=ae:=Hv ae
theorem adZ:∀w:World,(fencedOpening treeTable fx w 9000).map (fun s=>(s.heap,s.gens,s.drawn,s.toks))=D (boot_heap w.params,kc [],boot_drawn,boot_toks):=ad0 9000 (Hv ae)
theorem left:LeftO fx oI loose (fun _=>ae) (fun s=>s.heap) (fun w=>H1 w.params) 9000:=by
 refine ab7 (H0:=boot_heap) (HF:=H1) (mods:=mods) (FN:=11) (Fl:=boot_toks) (k₁:=2037) (M:=12+(10+(1939+(2744+(3425+10))))) (N:=9000) (ann:=jP) (DU:=boot_drawn) (zQ:= {}) LO ?_ ?_ ?_ ?_ ?_ ?_ ?_ ?_ ?_
 ·exact adZ
 ·exact agJ
 ·exact dq
 ·exact ab2
 ·exact k6
 ·exact gE
 ·exact mI
 ·exact lN
 ·exact pT
section
noncomputable abbrev jf:=PySem.Challenge.rw_xm0558_01.row
noncomputable def ob:DefRec:=match bO 206 with|.FunctionDef n a b _ _ _ g5 _ _ p=>⟨n,a,b,g5,p⟩|_=>⟨⟨#[]⟩,default,[],default,default⟩
noncomputable def YP(w:World)(h:bP):Prop:=∀a o,(H1 w.params).get? a=D o->h.get? a=D o
theorem Z2:defOf oI jf.name=D (ob,[]):=by kernel_rfl
theorem aat:jf.prog.theDef jf.name=D (ob.params,ob.body,ob.scope):=by kernel_rfl
theorem EG:kwWritten? ob.params.kwonlyargs ob.params.kw_defaults=D []:=by kernel_rfl
theorem adJ:(chainsOk oI && opensWell jf.prog && (frees jf.toRowW && jf.within.isEmpty))=ae:=by kernel_rfl
theorem aaS:(!jf.writes||jf.records.isEmpty)=ae:=by kernel_rfl
theorem ZU:jf.prog.bare:=⟨rfl,rfl,rfl,rfl,rfl,by decide+kernel⟩
theorem aaR:jf.toRowW.promised:=⟨[.list [.int 3,.int 1]],by decide+kernel,by decide+kernel⟩
theorem afl(x7:jf.wellSaid=ae)(call:WalkO oI loose (fun _ _=>True) YP jf.toRowW ob [] fun f vs=>RN f vs):jf.Holds:=holds_open (r:=jf) (q:=oI) (loose:=loose) (Xt:=fun _=>ae) (XP:=fun _ _=>True) (Yf:=fun s=>s.heap) (Ya:=fun w=>H1 w.params) (YP:=YP) (d:=ob) (kwd:=[]) (N:=9000)
  left (fun w s e a o q=>e▸q) (fun w h aD y k a o q=>k _ _ (y a o q)) (fun _ _=>trivial) (fun _ _ _ _ _=>trivial) Z2 aat EG (fun s _=>recFacts_of (R:=[]) (s:=s) rfl) aaS x7 adJ ZU aaR call
end
open PySem.W.Fast (te10501279942588096481 te10792542408131684335 te11788848310118352699 te12749700546528644094 te12862048085361865435 te12879404354523853263 te13343964577679436407 te14412699480532031325 te16286561074155671207 te17095254045102204799 te17119622794617984870 te17691160309236699985 te17868728402115742887 te18344453789297297638 te2357444279172408678 te2368527892694137696 te3471404346716756564 te4579403493507170074 te482687673346738481 te4857012375875476094 te5923862056798008813 te6984425678791042302 te7723801398212525404 te797321630700447069 te8179353310426384613 te8326940854005059898 te8377067652309620493 te9558739934217749035 te9572597257264208301 te9807087744658564304)
theorem ai2:namesResolve PySem.Challenge.rw_xm0558_01.row.prog=ae:=by
 rw[te8377067652309620493];kernel_rfl
theorem ai3:namesMeet PySem.Challenge.rw_xm0558_01.row.prog PySem.Challenge.rw_xm0558_01.row.prog.main.body (fun _ n=>attrL n)=ae:=by
 rw[te17119622794617984870,te17868728402115742887];kernel_rfl
theorem ai4:noRoadLSs {strict:= !(importedModules PySem.Challenge.rw_xm0558_01.row.prog.main.body).all cThrough.contains,foot:=aa,bare:=ajR (readsOut PySem.Challenge.rw_xm0558_01.row.prog PySem.Challenge.rw_xm0558_01.row.prog.main.body) ["vars","dir","locals"]} PySem.Challenge.rw_xm0558_01.row.prog.main.body=ae:=by
 rw[te8326940854005059898,te5923862056798008813,te13343964577679436407,te17691160309236699985];kernel_rfl
theorem afA:PySem.Challenge.rw_xm0558_01.wellSaid=ae:=by
 unfold OpenLaw.wellSaid OpenRow.wellSaid OpenRow.partSaid
 try unfold looksOpen
 repeat' (with_reducible refine look_both ?_ ?_)
 all_goals first
  |with_reducible exact ai2
  |with_reducible exact ai3
  |with_reducible exact ai4
  |(try rw[te11788848310118352699];try rw[te9807087744658564304];try rw[te12862048085361865435];try rw[te8377067652309620493];try rw[te18344453789297297638];try rw[te3471404346716756564];try rw[te14412699480532031325];try rw[te8326940854005059898];try rw[te5923862056798008813];try rw[te17691160309236699985];try rw[te13343964577679436407];try rw[te17119622794617984870];try rw[te17868728402115742887];try rw[te2357444279172408678];try rw[te4857012375875476094];try rw[te4579403493507170074];try rw[te12749700546528644094];try rw[te10501279942588096481];try rw[te8179353310426384613];try rw[te797321630700447069];try rw[te9572597257264208301];try rw[te9558739934217749035];try rw[te16286561074155671207];try rw[te6984425678791042302];try rw[te17095254045102204799];try rw[te12879404354523853263];try rw[te482687673346738481];try rw[te10792542408131684335];try rw[te7723801398212525404];try rw[Fast.named_eq]
    kernel_rfl)
end HD
namespace KK
open PySem PySem.W PyProof.Rows
section
noncomputable def D7:I H:=[96,103,171,185,206,221,236,243,250,257,264,271,278,285,290,302,309,316,323,342,349,424,445,452,466,473,480,606,611,1053,1060,680,687,694,701,708,715,736,743,750,757,764,771,778,785,792,799,806,813,827,834,841,848,855,862,869,876,883,890,904,911,919,926,931,936,943,950,957,964,978,990,997,1079,1091,1098,1106,1111,1118,1125,1132,1137,1144,1151,1158,1163,1170,1175]
noncomputable def Dz:I H:=[120,188,209,595,662,725,1063,1082]
noncomputable def Ij:I H:=D7++D7.map (· - 1)++Dz++Dz.map (· - 1)++ [214,229,417,147,125,126,127,128,129,130,131,132,133,134,135,141,143,144,145,146,136,137,138,139,140,142,149,148,151,150,438,437,612,617,615,613,614,913,914,1099]
noncomputable def js(i:H):H:=(D7[i]?).getD 0
noncomputable def m5(i:H):H:=(Dz[i]?).getD 0
noncomputable def BX(P:eb)(a:H):db:=((HD.yj P).get a).getD default
noncomputable def KF(P:eb):Frag:=Ij.map fun a=>(a,BX P a)
noncomputable def L3(t:BT)(a:H):au:=Nat.blt a 1176 && (match t.get a with|some o=> !o.isFreed|none=>aw)
noncomputable def xm(P:eb)(a:H):au:=L3 (HD.yj P) a
theorem TC{o:db}(h:o.isFreed=aw):alive o=D o:=by
 obtain⟨c,d,W2,ai⟩:=o
 cases W2 <;>first|rfl|cases h
theorem aik{t:BT}{a:H}(h:L3 t a=ae):(absHeap t 1176 {}).get? a=D ((t.get a).getD default):=by
 have ah:=zg h
 cases q:t.get a with
 |none=>rw[q]at ah;cases ah
 |some o=>rw[q]at ah;exact(abs_get (Nat.le_of_ble_eq_true (zf h)) q).trans (TC ((yA _).mp ah))
theorem Ae{P:eb}{a:H}(h:xm P a=ae):(HD.H1 P).get? a=D (BX P a):=aik (t:=HD.yj P) h
theorem Nd{f:H->db}:∀ {l:I H} {a:H} {o:db},(l.map fun a=>(a,f a)).lookup a=D o->a∈l/\o=f a
 |[],_,_,h=>nomatch h
 |b::l,a,o,h=>by
  rw[eI,mS]at h
  cases q:a==b with
  |true=>rw[q]at h;cases h;rw[<-ip.mp q];exact⟨.head _,rfl⟩
  |false=>rw[q]at h;exact(Nd h).imp (.tail _) id
theorem abE(P:eb):Ij.all (xm P)=ae:=by kernel_rfl
theorem kf_in{w:rY}{h:bP}(y:HD.YP w h):(KF w.params).In h:=fun a o e=>
 have q:=Nd e
 q.2▸y _ _ (Ae (ke.mp (abE _) a q.1))
noncomputable def K7:I (aK×H×al):=("__name__",165,(.str "law_xm0558_01" 1846))::(HD.w3++(HD.z8++HD.Em))
noncomputable def pA(x:aK):aJ al:=(K7.find? fun y=>y.1==x).map (·.2.2)
theorem ade:(gl 200).all (fun i=>Nat.beq ((NB.findIdx? (· ==TT.nm i)).getD ((TT.nm i).cps.toList.headD 0 - 1000000)) i)=ae:=by decide+kernel
theorem air(a b:H)(aI:a < 200)(ax:b < 200)(e:TT.nm a=TT.nm b):a=b:=by
 have h:=ke.mp ade
 have ag:=aki (h a (qe.mpr aI))
 have ah:=aki (h b (qe.mpr ax))
 rw[<-ag,<-ah,e]
end
section
theorem Kb(P:eb)(x:aK):∀l:I (aK×H×al),((HD.wR P l).find? fun e=>e.key.isStr x).map (·.val)=(l.find? fun y=>y.1==x).map (·.2.2)
 |[]=>rfl
 |a::l=>by
  show(match(a.1==x)with|true=>_|false=>_:aJ g8).map _=(match(a.1==x)with|true=>_|false=>_:aJ (aK×H×al)).map _
  cases a.1==x with
  |true=>rfl
  |false=>exact Kb P x l
theorem g3(P:eb):(BX P 3).data=Data.dict ⟨HD.wR P K7⟩ 205:=by kernel_rfl
theorem aa0(P:eb):xm P 3=ae:=by kernel_rfl
theorem aa2(P:eb):xm P sysModules=ae:=by kernel_rfl
theorem aaZ(P:eb):xm P 151=ae:=by kernel_rfl
theorem adt{h:bP}{a:aQ}{m:aK->aJ al}(hm:h.Ns a m){o:db}{es:I g8}{n:H}(aR:h.get? a=D o)(hd:o.data= .dict ⟨es⟩ n)(x:aK):m x=(es.find? fun e=>e.key.isStr x).map (·.val):=hm.elim fun dp q=>q.elim fun nc q=>q.elim fun ep q=>
  have e:=(am0 (hd.symm.trans ((bs Obj.data (bD (aR.symm.trans q.1))).trans q.2.1))).1
  (q.2.2.2 x).symm.trans (e▸bs (tW _) (List.find?_toArray ..))
theorem A4{w:rY}{h:bP}{mg:aK->aJ al}(y:HD.YP w h)(hm:h.Ns l8 mg)(x:aK):mg x=pA x:=(adt hm (y _ _ (Ae (aa0 w.params))) (g3 w.params) x).trans (Kb _ _ _)
noncomputable def lz(w:rY)(h:bP)(mg mb:aK->aJ al)(y:HD.YP w h)(fk:h.Ns l8 mg)(fX:h.Ns rZ mb)(nl:h.NoLimit):c0 where
 prog:=fx
 w:=w
 nm:=TT.nm
 ca:=m5
 jr:=js
 K:=KF w.params
 h₀:=h
 iz:=kf_in y
 lC:=TT.lC
 m6:=TT.m6
 jW:=TT.jW
 mg:=mg
 mb:=mb
 fk:=fk
 fX:=fX
 nolimit:=nl
 FR:=air
 low:=⟨_,y _ _ (Ae (aa2 w.params))⟩
section
set_option backward.match.sparseCases false
variable {p:Prop}
noncomputable def OC(v:al):(∀a,v= .ref a->Is p)->Is p:=match v with|.ref a=>fun k=>k a rfl|_=>fun _=> .no
noncomputable def Px(v:al):(∀s t,v= .str s t->Is p)->Is p:=match v with|.str a b=>fun k=>k a b rfl|_=>fun _=> .no
noncomputable def agp(v:Data):(∀s t,v= .seq s t->Is p)->Is p:=match v with|.seq a b=>fun k=>k a b rfl|_=>fun _=> .no
noncomputable def Zp(v:Data):(∀a,v= .func a->Is p)->Is p:=match v with|.func a=>fun k=>k a rfl|_=>fun _=> .no
noncomputable def Y9(v:Data):(∀a,v= .fields a->Is p)->Is p:=match v with|.fields a=>fun k=>k a rfl|_=>fun _=> .no
noncomputable def VE(v:FuncBody):(∀a,v= .stmts a->Is p)->Is p:=match v with|.stmts a=>fun k=>k a rfl|_=>fun _=> .no
end
theorem FW{a:aQ}:¬foot [] a:=fun⟨_,h,_⟩=>nomatch h
noncomputable def uU{α:Type}{p:Prop}(o:aJ α)(k:∀a,o=D a->Is p):Is p:=match o,k with|some a,k=>k a rfl|none,_=> .no
mutual
noncomputable def Qn{K:Frag}{h:bP}(X:K.In h):∀(v:V) (x:al),Is (aU [] h v x)
 |.none,x=>(fo (x= .none):Is (x= .none))
 |.bool b,x=>(fo (x= .bool b):Is (x= .bool b))
 |.int i,x=>⟨x.isInt i,akY⟩
 |.str s,x=>Px x fun bc t e=>(fo (bc=s)).m fun q:bc=s=>(⟨t,e.trans (bs (ak0 · t) q)⟩:∃t,x= .str s t)
 |.ab vs,x=>OC x fun a aI=>uU (K.lookup a) fun o aR=>agp o.data fun aS n hi=>((fo (o.cls= .type "tuple")).m fun aE ah=>⟨a,aS,aI,⟨o,X _ _ aR,aE,n,hi⟩,FW,ah⟩).ap (Hl X vs aS.toList)
 |.lst _,_=> .no
 |.obj _,_=> .no
noncomputable def Hl{K:Frag}{h:bP}(X:K.In h):∀(vs:I V) (xs:I al),Is (bK [] h vs xs)
 |[],l=>lP l (.yes rfl)
 |v::vs,l=>xS l fun x xs=>((Qn X v x).m fun a b=>⟨x,xs,rfl,a,b⟩).ap (Hl X vs xs)
end
noncomputable def qC{p:H->Prop}(f:∀i,Is (p i)):∀n,Is (∀i,i < n->p i)
 |0=> .yes fun i h=>absurd h (yI i)
 |n+1=>((f n).m fun a b i h=>(Rj.mp h).elim (b i) fun e=>e▸a).ap (qC f n)
end
section
noncomputable def uV{α:Type}{q:α->Prop}(o:aJ α)(k:∀a,Is (q a)):Is (∀a,o=D a->q a):=match o with
 |none=> .yes fun _ h=>nomatch h
 |some a=>(k a).m fun h b e=>bD e▸h
noncomputable def abi{α:Type}{q:α->Prop}(o:aJ α)(k:∀a,o=D a->Is (q a)):Is (∀a,o=D a->q a):=match o,k with
 |none,_=> .yes fun _ h=>nomatch h
 |some a,k=>(k a rfl).m fun h b e=>bD e▸h
noncomputable def AC{α:Type}{q:α->Prop}(k:∀a,Is (q a)):∀l:I α,Is (∀a∈l,q a)
 |[]=> .yes fun _ h=>nomatch h
 |x::l=>((k x).m fun ag ah=>cK.mpr ⟨ag,ah⟩).ap (AC k l)
noncomputable def aa7:aJ H->al|none=> .builtin "object.__init__" |some f=> .ref (js f)
noncomputable def sl(x:O×O×H):al:= .int x.2.1 (428+2 * (x.2.1.toNat - 1))
noncomputable def ut:I (O×O×H):=[(3,6,394),(4,5,396),(5,4,398),(6,1,400),(7,2,402),(10,7,408)]
theorem WW(P:eb):BX P 151=⟨.type "dict",aa,.dict ⟨ut.map fun x=>⟨hashInt x.1,.int x.1 x.2.2,sl x⟩⟩ 6,⟨[]⟩⟩:=by kernel_rfl
theorem blt{x:aK}{v:al}{mg mb:aK->aJ al}(m:∀x,mg x=pA x)(ax:∀x:aK,x≠ "__name__" ->mb x=yM x)(h:decide (pA x=aa/\x≠ "__name__" /\yM x=D v)=ae):mg x=aa/\mb x=D v:=
 have q:=gy h
 ⟨(m x).trans q.1,(ax x q.2.1).trans q.2.2⟩
section
variable {w:rY}{h:bP}{mg mb:aK->aJ al}(y:HD.YP w h)(fk:h.Ns l8 mg)(fX:h.Ns rZ mb)(nl:h.NoLimit)
theorem ac9(P:eb):∀f,f < 87->(TT.lC f).cps.size≠0->pA (TT.lC f)=D (.ref (js f))/\keepIn (KF P) (.ref (js f))=ae:=(qC (fun f=>fo _) 87).ok (by kernel_rfl)
theorem FQ(P:eb):∀c,c < 8->pA (TT.m6 c)=D (.ref (m5 c))/\keepIn (KF P) (.ref (m5 c))=ae/\∀i,PP.init c=D i->makesIn (KF P) (m5 c)=ae/\findIn (KF P) (.ref (m5 c)) "__init__" =D (D (aa7 i))/\i.all (fun f=>isFn (KF P) (.ref (js f)))=ae:=(qC (fun c=>(((fo _).m fun a b c=>⟨a,b,c⟩).ap (cN _)).ap (uV _ fun i=>fo _)) 8).ok (by kernel_rfl)
theorem ada{K:Frag}{h:bP}(X:K.In h){P:eb}(e:K=KF P):∀g,g < 82->∀v,PP.aV g=D v->∃val,pA (TT.jW g)=D val/\aU [] h v val:=(qC (fun g=>uV _ fun v=>uU (pA (TT.jW g)) fun val e=>(Qn X v val).m fun h=>⟨val,e,h⟩) 82).ok (by subst e;kernel_rfl)
theorem adb(P:eb):∀x∈Ea,∀a∈x.2,a < 200/\pz (KF P) (m5 x.1) (TT.nm a)=ae:=(AC (fun x=>AC (fun a=>fo _) x.2) Ea).ok (by kernel_rfl)
theorem adc(P:eb):∀x∈xJ,plainGet (KF P) (m5 x.1) (TT.nm x.2.1)=ae/\findIn (KF P) (.ref (m5 x.1)) (TT.nm x.2.1)=D (D (.ref (js x.2.2)))/\isFn (KF P) (.ref (js x.2.2))=ae/\keepIn (KF P) (.ref (js x.2.2))=ae:=(AC (fun x=>fo _) xJ).ok (by kernel_rfl)
theorem M7{α dg:Type}{l:I α}{f:aJ α->aJ dg}(bH:f aa=aa){n i:H}{b:dg}(aj:l.length=n)(h:f l[i]?=D b):i < n:=Ri fun q=>by
 rw[oY (aj▸q),bH]at h;cases h
theorem E7{c:H}{i:aJ H}(h:PP.init c=D i):c < 8:=M7 (l:=L5) (f:=(HM · aa)) rfl rfl h
theorem acU:wm (lz w h mg mb y fk fX nl) PP:=
 have m:=A4 y fk
 ⟨fun f F dZ hz=>(ac9 w.params f (fj.mp dZ).1 hz).imp (m _).trans id,fun c i aE=>have q:=FQ w.params c (E7 aE);⟨(m _).trans q.1,q.2.1⟩,
  fun g v bR=>(ada (kf_in y) rfl g (M7 (l:=La) (f:=(HM · aa)) rfl rfl bR) v bR).imp fun x q=>⟨(m _).trans q.1,q.2⟩⟩
theorem acD{c m f:H}(h:PP.b6 c m=D f):∃x∈xJ,x.1=c/\x.2.1=m/\x.2.2=f:=(Cu.mp (show(xJ.find? fun x=>x.1==c && x.2.1==m).map (fun x=>x.2.2)=D f from h)).imp fun x q=>
  have z:=Q5 (p:=fun x:H×H×H=>x.1==c && x.2.1==m) q.1
  ⟨Rf q.1,ip.mp (zf z),ip.mp (zg z),q.2⟩
theorem Za(P:eb){c a:H}(h:PP.fld c a=ae):a < 200/\pz (KF P) (m5 c) (TT.nm a)=ae:=(mR.mp h).elim fun x q=>(mR.mp (zg q.2)).elim fun z r=>ip.mp (zf q.2)▸ip.mp r.2▸adb P x q.1 z r.1
theorem No(P:eb){c m f:H}(h:PP.b6 c m=D f):plainGet (KF P) (m5 c) (TT.nm m)=ae/\findIn (KF P) (.ref (m5 c)) (TT.nm m)=D (D (.ref (js f)))/\isFn (KF P) (.ref (js f))=ae/\keepIn (KF P) (.ref (js f))=ae:=(acD h).elim fun x q=>q.2.1▸q.2.2.1▸q.2.2.2▸adc P x q.1
theorem aeo:pd (lz w h mg mb y fk fX nl) PP:=⟨fun _ _ q=>Za _ q,fun _ _ _ q=>have z:=No w.params q;⟨z.1,z.2.1,z.2.2.1⟩,fun c q=>have z:=(FQ w.params c (E7 q)).2.2 _ q;⟨z.1,z.2.1⟩,fun c f q=>(FQ w.params c (E7 q)).2.2 _ q⟩
theorem VR(ax:∀x:aK,x≠ "__name__" ->mb x=yM x):o8 (lz w h mg mb y fk fX nl):=
 have m:=A4 y fk
 ⟨blt m ax (by kernel_rfl),blt m ax (by kernel_rfl),blt m ax (by kernel_rfl),blt m ax (by kernel_rfl),blt m ax (by kernel_rfl),blt m ax (by kernel_rfl)⟩
theorem Kg{prog:g9}{w:rY}:∀l:I (O×O×H),Pairs (intKind prog w) (l.map fun x=>⟨hashInt x.1,.int x.1 x.2.2,sl x⟩) (l.map fun x=>(x.1,sl x))
 |[]=> .nil
 |x::l=> .cons (n2 x.1) rfl (Kg l)
theorem Kf(i:O):∀l:I (O×O×H),match(l.map fun x=>(x.1,x.2.1)).lookup i with|some j=>∃t,valueAt (l.map fun x=>(x.1,sl x)) i=D (.int j t)|none=>valueAt (l.map fun x=>(x.1,sl x)) i=aa
 |[]=>rfl
 |x::l=>by
  have bh:=Kf i l
  rw[eI,eI,mS,valueAt,v5]
  by_cases q:x.1=i
  ·rw[ip.mpr q.symm,cW q];exact⟨_,rfl⟩
  ·rw[n1.mpr (Ne.symm q),ek q];exact bh
theorem Zs:∀g,g < 82->(PP.lD g).isEmpty=aw->g=22:=(qC (fun g=>fo _) 82).ok (by kernel_rfl)
noncomputable def Ke:I (O×al):=ut.map fun x=>(x.1,sl x)
theorem WX:PP.lD 22=ut.map fun x=>(x.1,x.2.1):=by kernel_rfl
theorem WY{prog:g9}{w:rY}{h:bP}{n:H}{o:db}(e:h.get? 151=D o)(cH:o=⟨.type "dict",aa,.dict ⟨ut.map fun x=>⟨hashInt x.1,.int x.1 x.2.2,sl x⟩⟩ n,⟨[]⟩⟩):h.DictOf (intKind prog w) 151 Ke:=⟨_,_,n,cH▸e,⟨rfl,rfl,rfl⟩,rfl,fun e he=>(dk.mp (List.mem_toArray.mp he)).elim fun x q=>q.2▸⟨x.1,n2 x.1,rfl⟩,Kg ut,by decide+kernel⟩
theorem Zr{g:H}(bR:(PP.lD g).isEmpty=aw):g=22:=Zs g (Ri fun l=>by
 rw[show PP.lD g=[]from bs (HM · []) (oY l:K9[g]?=aa)]at bR;cases bR) bR
theorem ZA:pA (TT.jW 22)=D (.ref 151):=by kernel_rfl
theorem WZ:CN (lz w h mg mb y fk fX nl) PP:=⟨fun g bR=>Zr bR▸⟨151,Ke,(A4 y fk _).trans ZA,WY (y _ _ (Ae (aaZ w.params))) (WW w.params),by decide+kernel,fun i=>WX▸Kf i ut⟩⟩
theorem ZD(ax:∀x:aK,x≠ "__name__" ->mb x=yM x):Good (lz w h mg mb y fk fX nl) PP TT:=⟨rfl,rfl,rfl,rfl,acU y fk fX nl,aeo y fk fX nl,VR y fk fX nl ax,WZ y fk fX nl,fun _ _ _ q=>(No w.params q).2.2.2⟩
end
end
section
section
set_option backward.match.sparseCases false
noncomputable def ae7:al->aJ aQ|.ref a=>D a|_=>aa
noncomputable def agq:Data->I al|.seq a _=>a.toList|_=> []
noncomputable def El:Data->aJ ql|.func a=>D a|_=>aa
end
noncomputable def qS(P:eb)(i:H):aJ ql:=((KF P).lookup (js i)).bind fun o=>El o.data
theorem KN{P:eb}{i:H}{o:db}{fd:ql}(h:(KF P).lookup (js i)=D o)(e:o.data= .func fd):qS P i=D fd:=(bs (fun z:aJ db=>z.bind fun o=>El o.data) h).trans (bs El e)
noncomputable def zP(P:eb)(fd:ql):I al:=(((ae7 fd.defaults).bind fun a=>(KF P).lookup a).map fun o=>agq o.data).getD []
noncomputable abbrev tu(fd:ql):I aK:=fd.params.args.map (·.arg)
noncomputable def qI(P:eb)(S:t0)(v:H->al)(i j:H):aJ (I (aK×al)):=(qS P i).bind fun fd=>(ng[i]?).bind fun F=>peek (KF P) S (bindArgs fd ⟨(gl (F.bU - j)).map v,[]⟩)
noncomputable def bindB(P:eb)(v:H->al)(i j:H):aJ (I (aK×al)):=(qS P i).bind fun fd=>(ng[i]?).bind fun F=>D ((tu fd).zip ((gl (F.bU - j)).map v++(zP P fd).drop (F.dflt.length - j)))
noncomputable def C3(p:H->Prop):H->Prop
 |0=>True
 |n+1=>p n/\C3 p n
theorem IQ{p:H->Prop}:∀ {n i:H},C3 p n->i < n->p i
 |n+1,i,h,l=>(Rj.mp l).elim (IQ h.2) fun e=>e▸h.1
theorem VH(P:eb)(S:t0)(v:H->al):C3 (fun i=>qI P S v i 0=bindB P v i 0) 87:=by
 repeat (first|exact trivial|refine⟨by kernel_rfl, ?_⟩)
theorem VJ(P:eb)(S:t0)(v:H->al):qI P S v 5 1=bindB P v 5 1:=by kernel_rfl
theorem VK(P:eb)(S:t0)(v:H->al):qI P S v 6 1=bindB P v 6 1:=by kernel_rfl
theorem VL(P:eb)(S:t0)(v:H->al):qI P S v 6 2=bindB P v 6 2:=by kernel_rfl
theorem VI(P:eb)(S:t0)(v:H->al):qI P S v 21 1=bindB P v 21 1:=by kernel_rfl
theorem WQ:∀i,i < 87->∀F,ng[i]?=D F->F.dflt.length=0\/(i=5\/i=21)/\F.dflt.length=1\/i=6/\F.dflt.length=2:=(qC (fun i=>uV _ fun F=>fo _) 87).ok (by kernel_rfl)
end
section
theorem ae3(l:I al):(gl l.length).map (fun i=>(l[i]?).getD .none)=l:=by
 refine Q1 fun i=> ?_
 rw[rR]
 by_cases h:i < l.length
 ·rw[List.getElem?_range h,hG h];exact bs D (bs (HM · _) (hG h))
 ·rw[oY ((Rb).symm▸HI h),oY (HI h)];rfl
theorem VM(P:eb)(S:t0)(v:H->al){i j:H}{F:b7}(dZ:ng[i]?=D F)(cg:j<=F.dflt.length):qI P S v i j=bindB P v i j:=by
 have hi:i < 87:=(fj.mp dZ).1
 have zero:j=0->qI P S v i j=bindB P v i j:=fun e=>e▸IQ (VH P S v) hi
 rcases WQ i hi F dZ with d|d|d
 ·exact zero (Nat.le_zero.mp (d▸cg))
 ·rw[d.2]at cg
  rcases Cr.mp cg with e|rfl
  ·exact zero e
  ·rcases d.1 with rfl|rfl
   ·exact VJ P S v
   ·exact VI P S v
 ·obtain⟨rfl,d⟩:=d
  rw[d]at cg
  rcases Rj.mp (Nat.lt_succ_of_le cg)with e|rfl
  ·rcases Cr.mp (o0 e)with e|rfl
   ·exact zero e
   ·exact VK P S v
  ·exact VL P S v
theorem VN(P:eb)(S:t0){i:H}{F:b7}{fd:ql}{vals:I al}(dZ:ng[i]?=D F)(sC:qS P i=D fd)(cL:vals.length<=F.bU)(ci:F.bU<=vals.length+F.dflt.length):
  peek (KF P) S (bindArgs fd ⟨vals,[]⟩)=D ((tu fd).zip (vals++(zP P fd).drop (F.dflt.length - (F.bU - vals.length)))):=by
 have e:=VM P S (fun i=>(vals[i]?).getD .none) dZ (j:=F.bU - vals.length) (akv (l6 _ _▸ci))
 rw[qI,bindB,sC,dZ,tV,tV,tV,tV,akx cL,ae3]at e
 exact e
noncomputable abbrev MR(g5:kN)(x:aK):Prop:=g5.names.lookup x=D .local\/g5.names.lookup x=D .cell
theorem MB{l:I (aK×kM)}(cj:(l.map (·.1)).Nodup){k:kM}{g:aK}(bR:g∈(l.filter fun p=>p.2==k).map (·.1)):l.lookup g=D k:=(dk.mp bR).elim fun p q=>have z:=HH.mp q.1;q.2▸ip.mp z.2▸xE cj z.1
section
variable {w:rY}{h:bP}{mg mb:aK->aJ al}(y:HD.YP w h)(fk:h.Ns l8 mg)(fX:h.Ns rZ mb)(nl:h.NoLimit)
noncomputable abbrev Run(X:c0)(own:I aK)(F:b7)(fd:ql)(body:I gV):Prop:=∀C n,kh X C n->n5 PP C->lw X PP C n (yb own fd.scope) body F.body
theorem acE{i:H}{F:b7}{own:I aK}{o rr:db}{fd:ql}{c:aQ}{vs:dD al}{q:aK}{t:kO}{v:al}{body:I gV}(dZ:ng[i]?=D F)(aR:(KF w.params).lookup (js i)=D o)(sC:o.data= .func fd)(aE:fd.code= .ref c)(ES:(KF w.params).lookup c=D rr)
  (EZ:rr.data= .fields vs) (aH:vs[1]?=D v) (fm:v= .str q t) (ax:fd.body= .stmts body) (dx:q=fd.qualname) (a1:fd.closure.length=0) (c1:fd.scope.isCoroutine=aw) (e0:fd.scope.isGenerator=aw) (iv:fd.scope.kind= .function) (C2:fd.globals=l8) (qB:fd.builtins=rZ)
  (d7:(tu fd).length=F.bU) (dM:(tu fd).Nodup) (pk:∀x∈tu fd,MR fd.scope x) (kl:(fd.scope.names.map (·.1)).Nodup) (zn:∀p∈(yb own fd.scope).slots,MR fd.scope p.1/\(p.2 < F.bU->(tu fd)[p.2]?=D p.1)) (n8:(yb own fd.scope).ok=ae) (Do:bK [] h F.dflt (zP w.params fd)):
  ∃fd body,qS w.params i=D fd/\fd.body= .stmts body/\(Run (lz w h mg mb y fk fX nl) own F fd body->Ct (r2 (lz w h mg mb y fk fX nl) PP i F)):=⟨fd,body,KN aR sC,ax,fun run=>⟨{
    fd:=fd
    body:=body
    ai:=yb own fd.scope
    ps:=tu fd
    ds:=zP w.params fd
    obj:=⟨o,aR,sC⟩
    code:=⟨c,rr,vs,t,aE,ES,EZ,aH.trans (bs D (fm.trans (bs (ak0 · t) dx)))⟩
    Jy:=ax
    JQ:=Q0 a1
    co:=c1
    gen:=e0
    kind:=iv
    glob:=C2
    qJ:=qB
    np:=d7
    Op:=dM
    Oo:=pk
    nodup:=kl
    slots:=fun x i aA=>zn _ (mem_of_lookup aA)
    ok:=n8
    fD:=fun g bR=>MB kl bR
    h3:=fun g bR=>MB kl bR
    mq:=Do
    bind:=fun s vals iz cL ci=>kp_binds iz fun S=>VN w.params S dZ (KN aR sC) cL ci
    run:=run}⟩⟩
noncomputable def Zd(i:H)(F:b7)(own:I aK)(dZ:ng[i]?=D F):Is (∃fd body,qS w.params i=D fd/\fd.body= .stmts body/\(Run (lz w h mg mb y fk fX nl) own F fd body->Ct (r2 (lz w h mg mb y fk fX nl) PP i F))):=uU _ fun o aR=>Zp o.data fun fd sC=>OC fd.code fun c aE=>uU _ fun rr ES=>Y9 rr.data fun vs EZ=>uU _ fun v aH=>Px v fun q t fm=>VE fd.body fun body ax=>(((((((((((((((fo (q=fd.qualname)).m (acE y fk fX nl dZ aR sC aE ES EZ aH fm ax)).ap (fo _)).ap (fo _)).ap (fo _)).ap (fo _)).ap (fo _)).ap (fo _)).ap (fo _)).ap (fo _)).ap (fo _)).ap (fo _)).ap (fo _)).ap (cN _)).ap (Hl (kf_in y) _ _))
theorem Ze:∀i,i < 87->∀F,ng[i]?=D F->∃own,Od[i]?=D own/\∃fd body,qS w.params i=D fd/\fd.body= .stmts body/\(Run (lz w h mg mb y fk fX nl) own F fd body->Ct (r2 (lz w h mg mb y fk fX nl) PP i F)):=(qC (fun i=>abi _ fun F dZ=>uU _ fun own aR=>(Zd y fk fX nl i F own dZ).m fun z=>⟨own,aR,z⟩) 87).ok (by kernel_rfl)
end
section
noncomputable def VD(b:FuncBody){q:I gV->Prop}(k:∀a,Is (q a)):Is (∀a,b= .stmts a->q a):=match b with|.stmts a=>(k a).m fun h c e=>am2 e▸h|_=> .no
noncomputable def aiZ{ai:cR}{q:Prop}(k:ai.ok=ae->Is q):Is q:=if h:ai.ok=ae then k h else .no
theorem Zg{X:c0}{C:Cl}{n:H}(G:Good X PP TT)(dA:kh X C n)(a5:n5 PP C)(P:eb):∀i,i < 87->∀F,ng[i]?=D F->∀own,Od[i]?=D own->∀fd,qS P i=D fd->∀body,fd.body= .stmts body->lw X PP C n (yb own fd.scope) body F.body:=(qC (fun i=>uV _ fun F=>uV _ fun own=>uV _ fun fd=>VD _ fun body=>aiZ fun ok=>uW (JL G dA a5 30 ok 12) body F.body) 87).ok (by kernel_rfl)
end
section
variable {w:rY}{h:bP}{mg mb:aK->aJ al}(y:HD.YP w h)(fk:h.Ns l8 mg)(fX:h.Ns rZ mb)(nl:h.NoLimit)
theorem Zf(ax:∀x:aK,x≠ "__name__" ->mb x=yM x){i:H}{F:b7}(dZ:PP.fn i=D F):Ct (r2 (lz w h mg mb y fk fX nl) PP i F):=
 have hi:=(fj.mp (show ng[i]?=D F from dZ)).1
 (Ze y fk fX nl i hi F dZ).elim fun own q=>q.2.elim fun fd z=>z.elim fun body z=>z.2.2 fun C n dA a5=>Zg (ZD y fk fX nl ax) dA a5 w.params i hi F dZ own q.1 fd z.1 body z.2.1
end
end
section
section
variable {R:WRecords}
set_option backward.match.sparseCases true in
noncomputable def adn:aJ rX->aJ rX:=fun x=>match x with|some (.bool b)=>D (.bool (!b))|_=>aa
set_option backward.match.sparseCases true in
noncomputable def TH(y:aJ rX):aJ rX->aJ rX:=fun x=>match x with
 |some (.bool aw)=>D (.bool aw)
 |some (.bool ae)=>(match y with|some (.bool x)=>D (.bool x)|_=>aa)
 |_=>aa
theorem not_and{t u:WTm}{e:WCtx}(h:t.value R e=D (.bool ae)):RH R (.and (.not t) u) e=aw:=by
 have a:RI R (.and (.not t) u) e=TH (u.value R e) (adn (t.value R e)):=rfl
 unfold RH
 rw[a,h]
 rfl
theorem aca{n:O}{L:I rX}(h:n < (L.length:O)):RI R (.lt (.lit (.int n)) (.len (.arg 0))) {args:=[.list L]}=D (.bool ae):=by
 have a:RI R (.lt (.lit (.int n)) (.len (.arg 0))) {args:=[.list L]}=D (.bool (decide (n < (L.length:O)))):=rfl
 rw[a,cW h]
theorem Md{cl:aK->aJ aQ}{h:bP}:∀(ns:I O) {vs:I al} {as:I aQ},ReadsAllW R cl h vs (ns.map .int) as->bK [] h (ns.map .int) vs
 |[],vs,as,q=>(ak4 q).1
 |n::ns,vs,as,q=>(ak3 q).elim fun v q=>q.elim fun r q=>q.elim fun a q=>q.elim fun b q=>⟨v,r,q.1,(readsW_int_inv q.2.2.1).imp fun t e=>e.1,Md ns q.2.2.2⟩
end
noncomputable abbrev eT:=HD.jf.toRowW.claim
theorem aeA{args:I rX}(h:eT.pre args=ae):∃ns:I O,args=[.list (ns.map .int)]/\ns.length<=63:=by
 obtain⟨ag,ah⟩:=ei.mp (show(ak1 [] args [.list .int] && RH [] (.and (.not (.lt (.lit (.int 63)) (.len (.arg 0)))) (.lit (.bool ae))) {args:=args})=ae from h)
 cases args with
 |nil=>cases ag
 |cons x r=>
  obtain⟨a6,bl⟩:=ei.mp (show(WShape.has [] x (.list .int) && ak1 [] r [])=ae from ag)
  obtain⟨xs,rfl,q⟩:=hasW_list a6
  obtain⟨ns,rfl⟩:=items_int q
  cases r with
  |cons _ _=>cases bl
  |nil=>
   refine⟨ns,rfl,HI fun l=> ?_⟩
   rw[not_and (aca (by rw[d5];exact fv.mpr l))]at ah
   cases ah
theorem aey{args:I rX}:eT.post args (.bool ae) args=ae:=by kernel_rfl
theorem abY:pA HD.ob.name=D (.ref (js 86)):=by kernel_rfl
theorem afg:r4 66 callerA:=⟨by decide+kernel,by decide+kernel,rfl⟩
noncomputable abbrev CT:Prop:=∀(xs:I O),xs.length<=100->∃af,az PP (0+66) 86 [.lst (xs.map .int)] []=D (.bool ae,af)
noncomputable def Ic(s bc:bb):Prop:=(∀b o,s.heap.get? b=D o->bc.heap.get? b=D o)/\bc.os=s.os/\bc.gens=s.gens
theorem aho(X:c0):bX X [] [] X.h₀:=⟨rfl,fun _ _ _ h _=>(nomatch h),fun _ _ _ _ h _ _=>(nomatch h),fun _ h=>(nomatch h),fun _ _ e=>e⟩
theorem afn(xz:CT){w:rY}{s:bb}{mg mb:aK->aJ al}(y:HD.YP w s.heap)(fk:s.heap.Ns l8 mg)(fX:s.heap.Ns rZ mb)(nl:s.heap.NoLimit)(ax:∀x:aK,x≠ "__name__" ->mb x=yM x){ns:I O}(l:ns.length<=63){vals:I al}(aH:bK [] s.heap [.lst (ns.map .int)] vals):
  bi (bv fx w) callerA (RN (.ref (js 86)) vals []) (fun v bc=>v= .bool ae/\Ic s bc) b4 s:=(xz ns (cp l (by decide))).elim fun af py=>e7 ((Wd (X:=lz w s.heap mg mb y fk fX nl) (P:=PP) (fun f F dZ=>Zf y fk fX nl ax dZ) 66).wp py afg (aho _) aH)
   (fun v bc q=>q.elim fun bj q=>⟨q.2.2,fun b o e=>q.1.step.keep b o e FW (fun h=>(nomatch h)),q.1.same.elim fun aD e=>e.elim fun tk e=>e▸⟨rfl,rfl⟩⟩) fun _ _ x=>x
theorem afB{args:I rX}{cl:aK->aJ aQ}{acx:ExcName->aJ al}{s bc:bb}(c7:s.gens= #[]){v:al}(q:v= .bool ae/\Ic s bc):GoodWG eT cl acx args s (.ok (.ret v)) bc:=GoodW.toG ⟨.inl ⟨v,.bool ae,[],rfl,fun _=>rfl,q.1▸ .bool ae,aey,fun _=>⟨.nil,fun _ h=>(nomatch h)⟩⟩,q.2.1,q.2.2.1,q.2.2.2.trans c7⟩
theorem T9{cl:aK->aJ aQ}{h:bP}{vals:I al}{as:I aQ}{ns:I O}{R:WRecords}(bg:ReadsAllW R cl h vals [.list (ns.map .int)] as):bK [] h [.lst (ns.map .int)] vals:=(ak3 bg).elim fun v q=>q.elim fun r q=>q.elim fun a q=>q.elim fun b q=>(readsW_list_inv q.2.2.1).elim fun L z=>z.elim fun aS z=>z.elim fun c z=>⟨v,r,q.1,⟨L,aS,z.1,z.2.1,FW,Md ns z.2.2.1⟩,(ak4 q.2.2.2).1⟩
theorem aiS(xz:CT):WalkO HD.oI HD.loose (fun _ _=>True) HD.YP HD.jf.toRowW HD.ob [] fun f vs=>RN f vs:=fun w amy a2 mg mb G Y a o Ol DA doc alQ al5 _ _ _ _ ef c7 args vals as aaA _ bg _ _=>(aeA aaA).elim fun ns p=>
  have c5:a=js 86:=am7 (bD (ef.symm.trans ((A4 Y G.T.g _).trans abY)))
  e7 (c5▸afn xz Y G.T.g G.T.b G.T.nolimit G.T.builtins p.2 (T9 (p.1▸bg))) (fun v bc q=>afB c7 q) fun _ _ q=>q.elim
theorem abZ(xz:CT)(x7:HD.jf.wellSaid=ae):HD.jf.Holds:=HD.afl x7 (aiS xz)
end
end KK
theorem PySem.Challenge.cw_xm0558_01_holds : PySem.Challenge.rw_xm0558_01.Holds := by
 refine PySem.W.holds_law HD.afA fun x7=> ?_
 exact KK.abZ (fun _ h=>KK.ab0 _ h) x7
