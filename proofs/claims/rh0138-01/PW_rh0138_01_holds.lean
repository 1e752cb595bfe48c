import PyProof.Rows.All
import Open.Pieces
import KE.IntText
import PyProof.WalkInts
import PyProof.TupleOfSeq
import PyProof.Rows.SortWalk
import PyProof.CallStr
import OpenK.KMake
import OpenK.KCls
import KE.KTupTruth
import KE.KSliceW
import KE.KItem
import KE.KIntText
import KE.KDictSum
import KE.KDictOf
import Lean
import PySem.Challenge.RW_rh0138_01
set_option linter.unusedVariables false
set_option maxRecDepth 100000
set_option Elab.async false
set_option maxHeartbeats 0
set_option genSizeOf false
set_option backward.match.sparseCases false
set_option compiler.extract_closed false
set_option genCtorIdx false
set_option genInjectivity false
set_option bootstrap.genMatcherCode false
open Bool renaming false→ai,true→af,and_eq_true→fu,rec→EO,and_eq_true_iff→bS,false_ne_true→cp,or_eq_false_iff→DI,or_eq_true→dK,true_and→Ee,or_false→Sr,not_eq_true'→x5,eq_iff_iff→ji,and_true→n9,false_and→ye,eq_false_iff→nV,eq_false_or_eq_true→Q',and_self→Ef,or_eq_true_iff→RG,false_eq_true→x0,not_true→Su
open List renaming length→gK,toArray→Em,casesOn→cn,cons→aO,nil→aP,rec→yB,replicate→cx,range→cv,append_assoc→ef,append_cons→rj,append_nil→c8,mem_append_right→eD,mem_cons_self→kZ,all_eq_true→cH,foldl_append→rc,getElem?_eq_some_iff→hy,map_cons→eE,mem_cons→eS,mem_cons_of_mem→je,mem_map→cr,mem_of_getElem?→eR,nodup_cons→gn,zipIdx_cons→R0,length_map→aB,not_mem_nil→kh,all_map→pD,filter_cons→rh,flatMap_cons→D0,foldl_cons→t8,getElem?_eq_getElem→cS,getElem_of_mem→q_,length_filter_le→hY,map_map→eg,mem_append→dD,mem_singleton→bW,nodup_append→ke,pairwise_cons→pr,pairwise_singleton→Q_,contains_eq_mem→tW,filter_sublist→mX,getElem?_append_left→jF,getElem?_inj→DY,map_inj_right→DS,mem_filter→c_,mem_range→hB,length_append→bi,mem_flatMap→pz,dropLast_concat→Ru,getLast?_concat→Rr,length_replicate→kX,lookup_cons→fP,map_append→cm,take_left→t_,append_cancel_left→Du,length_eq_zero_iff→fs,any_cons→So,contains_cons→RN,findSome?_append→Rn,findSome?_cons→xX,mem_append_left→cG,all_append→ya,all_cons→m0,all_nil→SF,any_eq_true→t4,contains_iff_mem→ee,lookup_eq_some_iff→Ra,findIdx?_eq_some_iff_getElem→QN,getElem?_map→dX,getElem?_range→tX,map_congr_left→Rz,flatMap_append→DN,flatMap_singleton→DC,length_range→gm,map_eq_flatMap→kd,append_eq_nil_iff→pk,eq_replicate_iff→DE,filter_append→pv,getElem?_append_right→jE,getElem_append→RB,length_cons→mY,length_pos_iff→jf,sum_cons→n8,ext_getElem?→x4,getElem?_eq_none→po,mem_map_of_mem→q',getElem?_zipIdx→Rs,length_zipIdx→pu,zipIdx_map_fst→xW,forall_mem_singleton→tS,drop_eq_nil_of_le→Rg,take_length→D1,drop_left'→Sc,drop_nil→Sn,flatMap_def→D3,length_drop→rg,map_drop→yg,map_eq_nil_iff→DK,map_id→ui,exists_mem_of_ne_nil→nS,getElem_mem→k1,length_pos_of_mem→DA,range_succ→x_,map_nil→SE,getElem?_mapIdx→nU,length_mapIdx→RL,nodup_range→D2,any_eq_false→RV,forall_mem_cons→pp,sum_append→x',drop_sublist→RU,length_take_of_le→Dz,map_take→rp,take_sublist→DW,flatten_append→RC,flatten_cons→DZ,flatten_singleton→Rf,mem_flatten→t3,take_append_drop→Rm,take_of_length_le→Dy,filter_eq_self→DO,forall_mem_append→DB,ne_nil_of_mem→xZ,eq_of_mem_replicate→Q8,getElem?_take_of_lt→Q7,length_flatten→RA,length_take→nX,map_replicate→DR,sum_replicate_nat→Rd,foldr_cons→Sa,getElem?_drop→RM,length_singleton→DD,reverse_cons→DX,getElem_map→R8,filter_reverse→RD,map_reverse→R7,mem_reverse→x7,length_reverse→DM,filter_cons_of_neg→Dt,filter_cons_of_pos→Ds,getElem?_set_ne→Rt,getElem?_set_self→Re,lookup→kj,map_inj_left→jH,append_toArray→xY,replicate_succ→Ry,size_toArray→d2,isEmpty_toArray→DH,nodup_nil→yd,getElem?_toArray→pn,filterMap→Sj,take_add_one→RS,dropLast_eq_take→Ro,eraseIdxIfInBounds_toArray→QP,push_toArray→RT,drop_eq_getElem_cons→Q5,drop_length→R9,forIn_cons→D8,find?_some→Sb,mem_of_find?_eq_some→Q4
open Nat renaming beq→d3,ble→fx,add_assoc→ev,add_comm→f_,add_le_add→dd,add_le_add_left→ci,add_le_add_right→dc,add_mul→uk,eq_of_beq_eq_true→jd,le_of_ble_eq_true→lM,le_of_eq→a9,le_of_not_lt→dC,le_refl→bv,le_trans→ao,le_zero→rv,lt_of_le_of_lt→jg,mul_add→EH,mul_assoc→Ek,mul_comm→Ev,mul_le_mul_left→fh,mul_le_mul_right→pq,mul_one→lR,mul_succ→Eu,one_mul→ru,succ→fB,zero→fA,zero_add→jI,zero_le→cA,zero_lt_one→pB,zero_mul→Es,casesOn→ir,le_of_lt_succ→iW,le_of_succ_le_succ→q8,lt_of_lt_of_le→ft,not_lt_zero→rl,not_lt_of_le→e7,le_add_left→gH,le_of_lt→gJ,lt_of_not_le→f',succ_ne_zero→D6,lt_irrefl→gI,lt_trans→rr,ne_of_lt→hZ,eq_or_lt_of_le→RQ,eq_zero_or_pos→DU,le_succ→fQ,ne_of_gt→lP,le_add_right→bu,le_antisymm→e8,min_eq_left→t9,lt_or_eq_of_le→x2,not_succ_le_zero→kY,succ_le_succ→b3,cast→ER,sub_le→it,sub_sub→SW,add_sub_cancel'→ra,lt_succ_of_le→t0,succ_mul→SP,add_lt_add_right→xV,add_sub_cancel_left→Dw,le_max_left→iY,le_max_right→mZ,not_le_of_lt→jh,sub_add_cancel→fi,sub_le_iff_le_add→g3,sub_lt_left_of_lt_add→tT,sub_self→pE,le_of_succ_le→kg,lt_succ_self→lO,max_le→yq,add_right_comm→tY,succ_lt_succ→D7,min_eq_right→x9,lt_of_le_of_ne→rb,sub_pos_of_lt→tZ,le_succ_of_le→re,add_zero→Ez,lt_or_ge→Ew,mul_le_mul→k2,zero_ne_one→Si,le_mul_of_pos_right→Rc,le_of_add_right_le→pm,succ_pos→m3,lt_succ_of_lt→px,pos_of_ne_zero→x1,eq_of_testBit_eq→Rx,or_assoc→ue,or_comm→EG,or_self→uj,or_zero→SX,testBit_or→yf,min_le_left→yb,min_le_right→nY,sub_eq_zero_of_le→tV,sub_zero→Et,le_total→Ey,sub_lt_sub_left→RJ,ble_eq_true_of_le→DF
open Option renaming none→ah,some→ac,bind_eq_some_iff→jG,map_eq_some_iff→dg,getD_some→nW,map→yn,isSome_iff_exists→mW,map_some→n5,any_some→x8,or→yp,or_eq_some_iff→Dx
open PySem renaming Addr→bp,DictEntry→eT,Env→od,Heap→fT,Obj→cj,OsState→ew,Params→bY,Stmt→di,Str→br,Value→aV,World→bZ,reduceHash→yy,treeTable→pK,Shared→ct,importedModules→Ej,mainGlobals→n_,call→gN,CmpOp→m_,Operator→m7,Expr→c6,Scope→gM,Around→pO,cLine→pQ,eqIsQuiet_byValue→Sx,model→aN,wpAny→aH,wpAny_bind→aG,wpAny_call_entry→pA,wpAny_forIn_list→SI,wpAny_isInstance→SH,wpAny_pure→bo,wpAny_ret_mkInt→SU,wpAny_rule→yv,wpAny_specialOf→ua,sizeLine→fR,NameKind→lV,builtinsNs→ry,eval→bO,storeName→yC,wpAny_loadName_cell→x3,wpAny_loadName_free→Se,wpAny_loadName_local→R',setAttr→uz,sizeLine_eq→jj,Sem→h8,foldedSetIterable→Sw,getItem→m9,isTrue→lX,starEach→gt,binaryOp→oe,call_meets→ob,concat_meets→yo,noFill_tuple_add→Eb,seq_tuple_add→EE,compareOp→gr,truthy→rB,wpAny_truthy_bool→rf,wpAny_truthy_list→Sv,atKey→om,intKind_is→uq,sysModules→yx,seqIndex?→ES,IsPart→i0,sliceBounds→EL,wpAny_callSpecial?_slot→xU,wpAny_field→rx,wpAny_holding→eF,wpAny_newObj_type→t5,wpAny_typeOf→EJ,call_meetsIn→rt,wpAny_dictEntries→t6,wpAny_letGo→EK,wpAny_newList→EC,list_append→RI,wpAny_pyIter_list→D9,backTo→gL,spliced→lW,attributeBase→yk,wpAny_Dict_empty→SK,wpAny_letTemporaryGo→DT,wpAny_mono→d9,wpAny_standAt→fw,arm_eval_Subscript→Sm,wpAny_operating→Eg,standAt→uy,pyIter→km,pyNext→uB,rawInt→oj,strIterType→pF,wpAny_attempt→ED,wpAny_dictEpoch→Ei,wpAny_isOneOf_keyiter→RY,wpAny_notOrdered_dict→RX,wpAny_of_eq→yr,wpAny_typeNameOfWhole_keyiter→xR,wpAny_Call_NameR→SL,assign→uC,assignEach→EP,wpAny_assign_Name→D',codeAny→oi,letOwnedTupleGo→SV,wpAny_execs_nil→Eh,compEnvC→uw,relabel→yF,comprehension→EF,wpAny_comp_letGo→SJ,Slot→SN,callWith→kl,getMethod→m6,wpAny_call→yw,exec→ot,swapsWith→pL,wpAny_Assign_Name→t7,inplaceOp→ET,wpAny_release→EB,wpAny_delItem_slot→Sl,wpAny_listPart→En,FuncData→rA,callEnvC→pM
open PySem.Challenge renaming pw_rh0138_01→Th,rw_rh0138_01→Dk
open PySem.Data renaming dict→k9,fields→m8,func→pP,seq→op
open PySem.Flow renaming next→h6
open PySem.FuncBody renaming stmts→EN
open PySem.Obj renaming cls→iy,data→ix,mapSeq→ul,data_mapFields→RP,mapFields→Sz,data_mapDictKeys→Rw
open PySem.Stmt renaming FunctionDef→yl,Pass→uE,Assign→iZ,AugAssign→um,Delete→yE
open PySem.Value renaming bool→cC,builtin→bJ,int→aq,none→dj,ref→am,str→ba,type→bn
open PySem.W renaming SharedT→jk,boot_drawn→EQ,boot_heap→oc,boot_toks→EU,piece_app→lT,segRun_of→lS,topFrame→og,findIn→lZ,kms_hi→lY,kms_lo→fz,emptyDict→lU,instObj→k7,WData→rD,WellAll→yG,wellAll_cons_inv→SM
open PySem.W.Fast renaming te10110043849684766642→T2,te11892475500146522536→T1,te14364793385576792824→QD,te15667345088766844465→TZ,tw10110043849684766642→Tq,tw14364793385576792824→Tp,te4187177175401517315→Tw,te15985051520779696433→Tz,te6116379765354995101→Tv,te10792542408131684335→xQ,te13582783067957832011→T0,te16286561074155671207→Tx,te17119622794617984870→xP,te18344453789297297638→QC,te797321630700447069→QG,te8179353310426384613→Tu,te8326940854005059898→QE,te8377067652309620493→Tt,te9558739934217749035→Ts
open PySem.Shared renaming heap→dk,toks→de
open PySem.ScopeKind renaming function→k4
open PySem.W.WData renaming list→uD,bool→g7,int→k8
open PySem.W.OpenLaw renaming wellSaid→Rv
open Eq renaming symm→cB,trans→uv
open Decidable renaming decide→aM
open Int renaming fmod→uu,natCast_nonneg→gG,ofNat_lt→g5,toNat_natCast→py,eq_ofNat_of_zero_le→Ri,not_lt→hD,ofNat→k6,ofNat_le→gq,not_le→oa,le_of_eq→yj,le_trans→lQ,ofNat_inj→El,ofNat_sub→yh,sub_right_le_of_le_add→xS,zero_add→EA,toNat_sub→rq,toNat_lt→yi,toNat_of_nonneg→DP,sub_nonneg→Ed,add_comm→SS,sub_eq_iff_eq_add→DG,le_sub_left_of_add_le→Q9,sub_nonpos_of_le→RE,le_of_lt→ug,lt_of_le_of_lt→DV,lt_trans→uf,ne_of_gt→SR,toNat_le→SQ,add_lt_add_right→RF,lt_of_lt_of_le→RW,neg_le_neg→Sp,negSucc→uo,negSucc_lt_zero→DQ,le_natAbs→SG
open Min renaming min→hF
open PySem.Builtin renaming bitAnd→D4,bitOr→ub
open PySem.CmpOp renaming Gt→d4,GtE→jl,Lt→eU,LtE→oq,Eq→a6,IsNot→pN,NotEq→eG,In→c7,NotIn→m'
open PySem.Operator renaming Add→b9,BitAnd→uA,BitOr→iw,FloorDiv→ut,Mult→oo,Sub→fU
open Sum renaming inl→fS,inr→jm
open PySem.Str renaming ofString→gp
open Option.some renaming inj→bD,injEq→lN
open False renaming elim→EI
open Or renaming inl→av,inr→aI,elim→ux
open LawfulBEq renaming eq_of_beq→iv
open List.Mem renaming head→cU,tail→e9
open Int.ofNat renaming inj→dh
open Ne renaming symm→oh
open List.Pairwise renaming nil→h7,sublist→QR
open List.Perm renaming refl→rC,eq_of_pairwise→QV
open Nat.succ renaming inj→uc
open List.cons renaming injEq→ri,inj→rn
open Prod.mk renaming injEq→Ea,inj→Sg
open Prod renaming ext→ur,fst→yA,snd→yz
open Classical renaming byContradiction→gl
open PyProof.Rows renaming bitAnd_pp→QQ,bitOr_and→T_,nat_or_add_and→T7,getItem_tuple→T8,slot_tuple_getitem→D5,entry_list_sort→T9,neg_int→T6,callWith_type→T'
open Inhabited renaming default→fy
open PySem.Expr renaming Attribute→iu,Call→i1,Compare→rz,Constant→pJ,Dict→uF,List→pR,ListComp→pI,Name→ey,Subscript→pH,Tuple→ol,UnaryOp→yD
open PySem.PyData renaming depthAll→RO,eqv→ym
open Array renaming forIn_toList→RH,mem_toList_iff→Rp,not_mem_empty→DJ,length_toList→q9,getElem?_toList→Rj,getElem?_eq_none→Rb
open PySem.Builtin.Tuple renaming tupleHashOf→tR,tupleItemsOf→QJ,tupleExact→Tk,tupleIsExact→Tj
open PySem.F renaming slot_tuple_hash→x6,args_tuple_add_2→Do,entry_tuple_add→Dp,slot_int_rmul→SB,slot_tuple_add→Dr,slot_dict_len→SD,args_list_append_2→QT,args_list_extend_2→QS,entry_list_append→QZ,entry_list_extend→QY,slot_list_append→Dn,slot_list_extend→Dm,slot_list_pop→Q6,slot_list_reverse→QW,args_dict_keyiterator_next_1→QH,entry_dict_keyiterator_next→QI,slot_dict_iter→Q3,slot_dict_keyiterator_next→tQ,args_dict_get_2→Q2,args_dict_get_3→Q1,entry_dict_get→xT,plainAttrs_list→Q0,slot_dict_get→tU,slot_list_delitem→QX,slot_dict_delitem→RZ
open Subtype renaming ext→Sd
open PySem.Heap renaming get?→ys,get?_push_of_some→iq,get?_push_size→g4,lt_size→ki,SameBut→hC,size_push→yc,get?_update_self→Rk
open PySem.NameKind renaming cell→gu,free→d',«local»→g6,globalImplicit→pC
open Pure renaming pure→dm
open PySem.Builtin.List renaming listFitsIndex→T5,listTooLong→QO,listSubscript?→T4
open And renaming intro→EM
open PySem.Builtin.Slice renaming sliceAdjust→QM,sliceApplied→QK,sliceFields→Tn,slicePartIndex→Tl,slicePlaces→Dl
open PySem.Builtin.Str renaming strSliceIndices→QL
open PySem.IsPart renaming none→rE
open PySem.Txt renaming slice→yu
open Except renaming ok→jJ
open PySem.Calls renaming call_function_entry→Rq,Name_function_global→R_,spliced_cons→m5,spliced_nil→pG,callWith_builtin→SO,evalArgs_plain→Er
open PySem.Heap.SameBut renaming update→nT
open PySem.Builtin.Dict renaming showsAll→QU,takeOut→Dq
open PySem.Builtin.Dict_items renaming ownsTuple→QF
open PySem.Walks renaming range→Ep,strAscii→D_,strWide→Ec,tuple→Eo
open PySem.Builtin.Range renaming rangeSize→To
open PySem.IsRange renaming new→Sf
open ForInStep renaming yield→nZ
open PySem.Env renaming kindOf→Rl
open PySem.Code renaming builtin→ud
open PySem.AutoIntOps renaming iadd_0→Tg,isub_0→Tf
open List.Sublist renaming map→Ua
open PySem.Heap.IsSliceOf renaming new→Ti
open PySem.Heap.NoLimit renaming of_ok→T3
open PySem.W.WShape renaming has→Sy
open PySem.W.WTm renaming value→yt
namespace Rh.Internal
open PySem
section
open PySem.W PySem.Calls PyProof.Rows
noncomputable abbrev aC:Program:=Th
noncomputable def hm:Pos:=⟨0,0,0,0⟩
noncomputable def fV (i:Nat):Stmt:=(aC.main.body[i]?).getD (uE hm)
noncomputable def jY (i j:Nat):Stmt:=match fV i with|.ClassDef _ _ _ b _ _ _ _ _ _ _=>(b[j]?).getD (uE hm)|s=>s
noncomputable abbrev bC:Value:=dj
noncomputable def HT (Y:di) (q:br) (g:bp) (d p c:aV) (b:bp):Data:=match Y with
 |.FunctionDef n a B _ _ _ s _ _ _=>pP {name:=n,qualname:=q,params:=a,body:=EN B,scope:=s,globals:=g,closure:=[],defaults:=d,kwdefaults:=dj,pyModule:=p,code:=c,builtins:=b}
 |_=>.plain
noncomputable def bU (l:List aV):Obj:={cls:=bn "tuple",data:=op l.toArray}
noncomputable def iP (l:List aV):Obj:={cls:=dj,data:=m8 l.toArray}
noncomputable def cb (c:String) (l:List aV):Obj:={cls:=bn c,data:=m8 l.toArray}
noncomputable def jA (c:String) (d:Option bp) (sl:List (Option aV)):Obj:={cls:=bn c,dict:=d,data:=.plain,slots:=sl.toArray}
noncomputable def Pt (P:bY) (x:br):Int:=if x.cps.isEmpty then 0 else yy (P.strHash x.cps)
noncomputable def cl (P:bY) (x:br) (t:Tok) (v:aV):DictEntry:=⟨Pt P x,ba x t,v⟩
noncomputable def eZ (c:aV) (l:List eT) (k:Nat):Obj:={cls:=c,data:=k9 l.toArray k}
noncomputable def sZ (c:aV) (Y:di) (q:br) (g:bp) (d p C:aV) (b:bp):Obj:={cls:=c,data:=HT Y q g d p C b}
noncomputable def j7 (n:br) (b m:List aV) (ns:bp) (q:br) (s:List aV) (sl:List (Option aV)):Obj:=
 {cls:=bn "type",data:=.cls {name:=n,bases:=b,mro:=m,ns:=ns,qualname:=q,subclasses:=s},slots:=sl.toArray}
noncomputable def zl:List cj→List cj×List cj
 |[]=>([],[])
 |[a]=>([a],[])
 |a::b::r=>(a::(zl r).1,b::(zl r).2)
noncomputable def yS:Nat→List cj→BT
 |0,_=>.nil
 |_+1,[]=>.nil
 |k+1,v::r=>.node v (yS k (zl r).1) (yS k (zl r).2)
noncomputable def oV (Y:di):List Str:=match Y with
 |.FunctionDef _ a _ _ _ _ _ _ _ _=>a.args.map (·.arg)
 |_=>[]
noncomputable def lp (Y:di):Str:=match Y with
 |.FunctionDef x _ _ _ _ _ _ _ _ _=>x
 |_=>""
noncomputable def r4 (Y:di) (c:br) (t a:Nat) (d m:aV) (l:List br):List Obj:=
 [bU [],iP [],bU ((oV Y++l).zipIdx.map fun p=>ba p.1 (t+3+p.2)),bU [],sZ bC Y (c++lp Y) 0 bC bC bC 0,
 cb "code" [ba (lp Y) t,ba (c++lp Y) (t+1),ba "/claim/cut.py" (t+2),aq Y.pos.line 0,aq (oV Y).length 0,aq 0 0,aq 0 0,aq 3 0,am a,cC af,aq 181 0,am (a+1),bC,am (a+2),am (a+3),am (a+4),aq (t+3+(oV Y++l).length:Nat) 0,aq Y.pos.line 0,ba "/claim/cut.py" (t+4+(oV Y++l).length)],
 sZ (bn "function") Y (c++lp Y) 3 d m (am (a+5)) 0]
noncomputable abbrev gj:=Nat×Nat×Nat×List br
noncomputable def I0 (Y:di) (c:br) (t a:Nat) (d m:aV):List Obj:=
 [bU [],iP [],sZ bC Y (c++lp Y) 0 bC bC bC 0,
 cb "code" [ba (lp Y) t,ba (c++lp Y) (t+1),ba "/claim/cut.py" (t+2),aq Y.pos.line 0,aq (oV Y).length 0,aq 0 0,aq 0 0,aq 3 0,am a,cC af,aq 181 0,am (a+1),bC,bC,bC,am (a+2),aq (t+3:Nat) 0,aq Y.pos.line 0,ba "/claim/cut.py" (t+4)],
 sZ (bn "function") Y (c++lp Y) 3 d m (am (a+3)) 0]
noncomputable def CC (F:Nat→di) (c:br) (m d:aV) (r:gj):List Obj:=cond (d3 (r.1/1000%2) 1) (I0 (F (r.1%1000)) c r.2.1 r.2.2.1 d m) (r4 (F (r.1%1000)) c r.2.1 r.2.2.1 d m r.2.2.2)
noncomputable def LD (F:Nat→di) (c:br) (m:aV) (r:gj):List Obj:=
 cond (fx 2000 r.1) (bU [aq 0 (r.2.1-1)]::CC F c m (am (r.2.2.1-1)) r) (CC F c m bC r)
noncomputable def fn (F:Nat→di) (c:br) (m:aV) (l:List gj):List Obj:=l.flatMap (LD F c m)
noncomputable def ih (P:bY) (r:gj):DictEntry:=cl P (lp (fV (r.1%1000))) (r.2.1+5+cond (d3 (r.1/1000%2) 1) 0 (oV (fV (r.1%1000))++r.2.2.2).length) (am (r.2.2.1+cond (d3 (r.1/1000%2) 1) 4 6))
noncomputable def ia (r:gj):List Value:=[aq (fV (r.1%1000)).pos.line 0,aq 0 0,am (r.2.2.1+cond (d3 (r.1/1000%2) 1) 3 5)]
noncomputable def xy:List gj:=[(0,187,15,[])]
noncomputable def xd:List gj:=[(2057,511,186,[]),(2058,521,194,[]),(2059,531,202,[]),(2060,541,210,[]),(61,550,217,["found","place"]),(62,560,224,["last","out","place","given","mark"]),(63,573,231,["first","place","held","given","mark"]),(3064,588,239,[]),(65,594,244,["row"]),(66,603,251,["kind"]),(67,611,258,["row"]),(68,620,265,[]),(69,627,272,[]),(70,636,279,["t"]),(1071,644,286,[]),(72,650,291,[]),(73,658,298,[]),(74,666,305,[]),(75,674,312,["row"])]
noncomputable def v4:List gj:=[(76,683,319,[])]
noncomputable def vD:List gj:=[(99,888,444,["rule"]),(100,899,451,["made"]),(101,908,458,[]),(102,915,465,[]),(103,923,472,[]),(104,931,479,["rows","told"]),(105,942,486,["key","spot","answer"]),(106,954,493,["key"]),(107,963,500,[]),(108,970,507,[]),(109,979,514,["told","rows","a","b"]),(110,992,521,[]),(111,1001,528,["parts"]),(112,1010,535,[]),(113,1017,542,["a","b"])]
noncomputable def vo:List gj:=[(114,1028,549,[]),(115,1038,556,["rows","a","b"]),(116,1050,563,[]),(117,1058,570,["part"]),(118,1068,577,["lax","part","spot"]),(119,1080,584,["key"]),(120,1089,591,["tab","parts","kind"]),(121,1101,598,["rows","a","b"]),(122,1113,605,["s"])]
noncomputable def wW:List gj:=[(1124,1125,612,[])]
noncomputable def wP:List gj:=[(127,1134,618,["owners","prop","hidden"]),(128,1144,625,["out","seen","waiting","at","row","more"])]
noncomputable def wm:List gj:=[(133,1350,779,[]),(134,1358,786,["place"])]
noncomputable def uI:List gj:=[(135,1366,793,["prop"]),(1136,1375,800,[]),(137,1381,805,[]),(138,1388,812,[]),(139,1395,819,["row","prop"]),(140,1406,826,[]),(1141,1414,833,[]),(142,1420,838,[]),(143,1429,845,["row","shape"]),(144,1440,852,[]),(1145,1450,859,[]),(146,1456,864,[])]
noncomputable def wD:List gj:=[(1148,1467,871,[]),(1149,1473,876,[])]
noncomputable def xG:List gj:=[(153,1509,900,["rule"]),(154,1519,907,["rows","name","units","wider","row","unit","chosen"]),(155,1533,914,["host","out","place","given","mark","kind"]),(1156,1548,921,[])]
noncomputable def xD:List gj:=[(158,1580,945,[]),(159,1587,952,[])]
noncomputable def w9:List gj:=[(1161,1596,959,[]),(162,1602,964,["place"]),(163,1610,971,["rest","tail"]),(164,1621,978,[]),(1165,1629,985,[]),(1166,1635,990,[]),(167,1641,995,["place"]),(168,1651,1002,["s","t"]),(169,1662,1009,["rest","whole","elems","elem","row"]),(1170,1676,1016,[]),(171,1682,1021,["tab","whole","pairs","elem"]),(172,1696,1028,["a","b"])]
noncomputable def wb:List gj:=[(174,1733,1054,[])]
noncomputable def uK:List gj:=[(177,1751,1062,["at","x"]),(178,1761,1069,["out","atom","whole"]),(1179,1771,1076,[]),(1180,1777,1081,[]),(181,1783,1086,[]),(182,1790,1093,["groups","at","group","made","one"]),(183,1804,1100,["parts","total","start","go","place","atoms","cut","last"]),(184,1820,1107,["heads","opts","rest","tails","ro","how","place","atoms","held","one"]),(185,1838,1114,["held","atom"]),(1186,1847,1121,[]),(187,1853,1126,["heads","opts","rest","tails","ro","more"]),(188,1867,1133,["top","length","mine","theirs","place"]),(189,1880,1140,["told","held","mask"]),(1190,1891,1147,[]),(1191,1897,1152,[]),(192,1903,1157,["made","atom"]),(1193,1913,1164,[]),(194,1919,1169,["parts","part"]),(1195,1929,1176,[])]
noncomputable def a7 (P:bY) (x:br) (t:Tok) (a:bp):DictEntry:=cl P x t (am a)
noncomputable def bB (P:bY) (x:br) (t:Tok) (v:Int):DictEntry:=cl P x t (aq v (t-1))
noncomputable def oQ (t:Tok) (l:List br):Obj:=bU (l.zipIdx.map fun p=>ba p.1 (t+p.2))
noncomputable def N8 (P:bY):List DictEntry:=[cl P "__doc__" 166 bC,cl P "__package__" 167 bC,cl P "__loader__" 168 (bJ "__main__.__loader__#opaque"),cl P "__spec__" 169 bC,a7 P "__annotations__" 170 6,a7 P "__builtins__" 171 4,cl P "__file__" 173 (ba "/claim/cut.py" 172),cl P "__cached__" 174 bC]
noncomputable def Gu:List Value:=[]
noncomputable def Nt (P:bY):List DictEntry:=xy.map (ih P)++[bB P "U_ANY" 197 1,bB P "U_PROP" 199 3,bB P "U_ENUM" 201 10,bB P "U_VAR" 203 15,a7 P "KeepError" 234 39,a7 P "TooDeep" 263 60,a7 P "HostFault" 290 80]
noncomputable def PB:List Value:=xy.flatMap ia++[aq 9 0,aq 0 0,am 27,aq 14 0,aq 0 0,am 48,aq 19 0,aq 0 0,am 68]
noncomputable def KI (P:bY):List DictEntry:=[a7 P "Notes" 344 120,bB P "Y_KEY" 348 1,bB P "Y_BOOL" 350 2,bB P "Y_STR" 352 3,bB P "Y_NUM" 354 4,bB P "Y_ENUM" 356 5,bB P "Y_UNION" 358 6,bB P "Y_INTER" 360 7,bB P "Y_OBJ" 362 8,bB P "Y_REF" 364 9,bB P "Y_PARAM" 366 10,bB P "Y_ARRAY" 368 11,bB P "Y_TUPLE" 370 12,bB P "Y_SIG" 372 13,bB P "Y_KEYOF" 374 14,bB P "Y_INDEX" 376 15,bB P "Y_COND" 378 16,bB P "Y_MAPPED" 380 17,bB P "Y_TPL" 382 18,bB P "Y_ALIAS" 384 19,bB P "ANY" 386 0,bB P "UNKNOWN" 388 1,bB P "NEVER" 390 2,bB P "VOID" 392 3,bB P "UNDEF" 394 4,bB P "NULLT" 396 5,bB P "STRING" 398 6,bB P "NUMBER" 400 7,bB P "FALSE_T" 402 8,bB P "TRUE_T" 404 9,bB P "OBJECTT" 406 10,bB P "EMPTY" 408 11,bB P "ERR" 410 13,bB P "FRESH_F" 412 14,bB P "FRESH_T" 414 15,bB P "P_OPT" 416 1,bB P "P_PRIVATE" 418 8,bB P "P_PROTECTED" 420 16,bB P "E_NEED" 422 0,bB P "E_OPT" 424 1,bB P "E_REST" 426 2,bB P "E_SPREAD" 428 3,bB P "MAX_UNION" 430 400,a7 P "FIRST_ROWS" 452 147,a7 P "LITERAL_ROWS" 453 148,a7 P "MARKED_ROWS" 454 149]
noncomputable def K0:List Value:=[aq 24 0,aq 0 0,am 88]
noncomputable def Nk (P:bY):List DictEntry:=[a7 P "TypeTable" 509 180]++xd.map (ih P)
noncomputable def Oq:List Value:=[aq 86 0,aq 0 0,am 155]++xd.flatMap ia
noncomputable def Ho (P:bY):List DictEntry:=v4.map (ih P)++[bB P "R_ASSIGN" 694 1,bB P "R_COMPARE" 696 2,bB P "R_IDENT" 698 3,bB P "R_SUBTYPE" 700 4,bB P "RULE_MEET" 702 1,bB P "RULE_DEFERRED" 704 2,bB P "RULE_SIG" 706 3,bB P "RULE_LIST" 708 4,bB P "RULE_OBJECT" 710 5,bB P "RULE_CHOICE" 712 6,bB P "RULE_PLACES" 714 12,bB P "RULE_TELLS" 716 13,a7 P "VALUE_ROWS" 717 326,a7 P "LIST_ROWS_relbase" 718 327,a7 P "SHAPED_ROWS" 719 328,a7 P "DEFERRED_ROWS" 720 329,a7 P "OPEN_ROWS" 721 331,bB P "MAX_OPEN" 723 60,bB P "MOST_LOOKS" 725 20000,a7 P "RelRule" 794 376]
noncomputable def ID:List Value:=v4.flatMap ia++[aq 239 0,aq 0 0,am 337]
noncomputable def Ga (P:bY):List DictEntry:=[a7 P "Rel" 887 439]++vD.map (ih P)
noncomputable def Mb:List Value:=[aq 255 0,aq 0 0,am 386]++vD.flatMap ia
noncomputable def JC (P:bY):List DictEntry:=vo.map (ih P)++wW.map (ih P)++[a7 P "LIST_ROWS_shapes" 1133 617]++wP.map (ih P)++[bB P "MOST_ROUNDS" 1161 200,bB P "MOST_SHAPES" 1163 40]
noncomputable def Hc:List Value:=vo.flatMap ia++wW.flatMap ia++wP.flatMap ia
noncomputable def Lz (P:bY):List DictEntry:=[a7 P "Thin" 1349 774]++wm.map (ih P)
noncomputable def Lh:List Value:=[aq 536 0,aq 0 0,am 637]++wm.flatMap ia
noncomputable def Nf (P:bY):List DictEntry:=uI.map (ih P)++wD.map (ih P)++[bB P "MAX_COMBOS" 1482 25,a7 P "TellsRule" 1508 897]++xG.map (ih P)
noncomputable def GI:List Value:=uI.flatMap ia++wD.flatMap ia++[aq 680 0,aq 0 0,am 886]++xG.flatMap ia
noncomputable def GO (P:bY):List DictEntry:=[a7 P "PlacesRule" 1579 942]++xD.map (ih P)++w9.map (ih P)
noncomputable def FL:List Value:=[aq 725 0,aq 0 0,am 931]++xD.flatMap ia++w9.flatMap ia
noncomputable def M' (P:bY):List DictEntry:=[a7 P "RellistListRule" 1732 1051]++wb.map (ih P)++[a7 P "_law_points" 1750 1061]++uK.map (ih P)
noncomputable def K8:List Value:=[aq 827 0,aq 0 0,am 1040]++wb.flatMap ia++uK.flatMap ia
noncomputable def Cp:Value:=ba "__main__" 164
noncomputable def hf:Value:=ba "kindkeep.diags" 194
noncomputable def mx:Value:=ba "kindkeep.types" 345
noncomputable def jB:Value:=ba "kindkeep.relbase" 691
noncomputable def PD:Value:=ba "kindkeep.shapes" 1131
noncomputable def mh:Value:=ba "kindkeep.hosts" 1158
noncomputable def j2:Value:=ba "kindkeep.relate" 1479
noncomputable def nx:Value:=ba "kindkeep.rellist" 1594
noncomputable def xv:Value:=ba "law_rh0138_01" 1740
noncomputable def LS (P:bY) (o:cj) (a:cj) (b:cj):List Obj:=
 [PySem.W.boot_o_0 P,PySem.W.boot_o_1 P,o,a,PySem.W.boot_o_4 P,PySem.W.boot_o_5 P,PySem.W.boot_o_6 P,PySem.W.boot_o_7 P,PySem.W.boot_o_8 P,PySem.W.boot_o_9 P,PySem.W.boot_o_10 P,bU [],b,cb "code" [ba "<module>" 182,ba "<module>" 183,ba "/claim/cut.py" 184,aq 1 0,aq 0 0,aq 0 0,aq 0 0,aq 0 0,am 11,cC ai,aq 181 0,am 12,bC,bC,bC,bC,aq 185 0,aq 1 0,ba "/claim/cut.py" 186],jA "frame" ah [ac (am 13),ac (am 3),ac (am 3),ah,ac (ba "__main__" 164),ah,ac (am 0)]]
noncomputable def Py (P:bY) (o:cj):List Obj:=fn fV "" Cp xy++[bU [bn "Exception"],cb "builtin_function_or_method" [bJ "type.__prepare__",bn "type"],eZ (bn "dict") [cl P "__module__" 211 hf,cl P "__qualname__" 213 (ba "KeepError" 212),bB P "__firstlineno__" 215 9,a7 P "__init__" 224 36,a7 P "__static_attributes__" 227 37] 5,bU [],iP [aq 11 0,aq 4 0,am 35],cb "code" [ba "KeepError" 206,ba "KeepError" 207,ba "/claim/cut.py" 208,aq 9 0,aq 0 0,aq 0 0,aq 0 0,aq 0 0,am 25,cC ai,aq 181 0,am 26,bC,bC,bC,bC,aq 209 0,aq 9 0,ba "/claim/cut.py" 210],jA "frame" ah [ac (am 27),ac (am 3),ac (am 24),ah,ac hf,ah,ac (am 0)],bU [ba "" 216]]++r4 (jY 6 0) "KeepError." 217 30 (am 29) hf []++[oQ 225 ["number","text"],eZ (bn "dict") [cl P "__module__" 211 hf,bB P "__firstlineno__" 215 9,a7 P "__init__" 224 36,a7 P "__static_attributes__" 227 37,a7 P "__weakref__" 229 40,cl P "__doc__" 230 bC] 3,o,cb "getset_descriptor" [ba "__weakref__" 228,am 39,bJ "ExceptionGroup.__weakref__",bC],cb "super" [am 39,am 39,am 39],cb "builtin_function_or_method" [bJ "object.__init_subclass__",am 39],bU [am 39],cb "builtin_function_or_method" [bJ "type.__prepare__",bn "type"],eZ (bn "dict") [cl P "__module__" 242 hf,cl P "__qualname__" 244 (ba "TooDeep" 243),bB P "__firstlineno__" 246 14,a7 P "__init__" 257 57,a7 P "__static_attributes__" 260 58] 5,bU [],iP [aq 16 0,aq 4 0,am 56],cb "code" [ba "TooDeep" 237,ba "TooDeep" 238,ba "/claim/cut.py" 239,aq 14 0,aq 0 0,aq 0 0,aq 0 0,aq 0 0,am 46,cC ai,aq 181 0,am 47,bC,bC,bC,bC,aq 240 0,aq 14 0,ba "/claim/cut.py" 241],jA "frame" ah [ac (am 48),ac (am 3),ac (am 45),ah,ac hf,ah,ac (am 0)],bU [aq 2589 247,ba "" 248]]++r4 (jY 7 0) "TooDeep." 249 51 (am 50) hf []++[oQ 258 ["number","text"],eZ (bn "dict") [cl P "__module__" 242 hf,bB P "__firstlineno__" 246 14,a7 P "__init__" 257 57,a7 P "__static_attributes__" 260 58,cl P "__doc__" 261 bC] 2,j7 "TooDeep" [am 39] [am 60,am 39,bn "Exception",bn "BaseException",bn "object"] 59 "TooDeep" [] [ac (am 43),ah,ac (ba "TooDeep" 235),ac (ba "TooDeep" 243),ac (bJ "Exception.__new__"),ac (cC af)],cb "super" [am 60,am 60,am 60],cb "builtin_function_or_method" [bJ "object.__init_subclass__",am 60],bU [am 39],cb "builtin_function_or_method" [bJ "type.__prepare__",bn "type"],eZ (bn "dict") [cl P "__module__" 271 hf,cl P "__qualname__" 273 (ba "HostFault" 272),bB P "__firstlineno__" 275 19,a7 P "__init__" 284 77,a7 P "__static_attributes__" 287 78] 5,bU [],iP [aq 21 0,aq 4 0,am 76],cb "code" [ba "HostFault" 266,ba "HostFault" 267,ba "/claim/cut.py" 268,aq 19 0,aq 0 0,aq 0 0,aq 0 0,aq 0 0,am 66,cC ai,aq 181 0,am 67,bC,bC,bC,bC,aq 269 0,aq 19 0,ba "/claim/cut.py" 270],jA "frame" ah [ac (am 68),ac (am 3),ac (am 65),ah,ac hf,ah,ac (am 0)],bU [ba "" 276]]++r4 (jY 8 0) "HostFault." 277 71 (am 70) hf []++[oQ 285 ["number","text"],eZ (bn "dict") [cl P "__module__" 271 hf,bB P "__firstlineno__" 275 19,a7 P "__init__" 284 77,a7 P "__static_attributes__" 287 78,cl P "__doc__" 288 bC] 2,j7 "HostFault" [am 39] [am 80,am 39,bn "Exception",bn "BaseException",bn "object"] 79 "HostFault" [] [ac (am 63),ah,ac (ba "HostFault" 264),ac (ba "HostFault" 272),ac (bJ "Exception.__new__"),ac (cC af)],cb "super" [am 80,am 80,am 80],cb "builtin_function_or_method" [bJ "object.__init_subclass__",am 80]]
noncomputable def PY (P:bY):List Obj:=[bU [],cb "builtin_function_or_method" [bJ "type.__prepare__",bn "type"],eZ (bn "dict") [cl P "__module__" 298 hf,cl P "__qualname__" 300 (ba "Notes" 299),bB P "__firstlineno__" 302 24,a7 P "__init__" 309 96,a7 P "put" 318 103,a7 P "codes" 328 110,a7 P "clean" 335 117,a7 P "__static_attributes__" 337 118] 8,bU [],iP [aq 26 0,aq 4 0,am 95,aq 29 0,aq 4 0,am 102,aq 32 0,aq 4 0,am 109,aq 38 0,aq 4 0,am 116],cb "code" [ba "Notes" 293,ba "Notes" 294,ba "/claim/cut.py" 295,aq 24 0,aq 0 0,aq 0 0,aq 0 0,aq 0 0,am 86,cC ai,aq 181 0,am 87,bC,bC,bC,bC,aq 296 0,aq 24 0,ba "/claim/cut.py" 297],jA "frame" ah [ac (am 88),ac (am 3),ac (am 85),ah,ac hf,ah,ac (am 0)]]++fn (jY 9) "Notes." hf [(0,303,90,[]),(1,310,97,[]),(2,319,104,["found","code","at"]),(3,329,111,[])]++[bU [ba "rows" 336],eZ (bn "dict") [cl P "__module__" 298 hf,bB P "__firstlineno__" 302 24,a7 P "__init__" 309 96,a7 P "put" 318 103,a7 P "codes" 328 110,a7 P "clean" 335 117,a7 P "__static_attributes__" 337 118,a7 P "__dict__" 339 121,a7 P "__weakref__" 341 122,cl P "__doc__" 342 bC] 4,j7 "Notes" [bn "object"] [am 120,bn "object"] 119 "Notes" [] [ah,ah,ac (ba "Notes" 291),ac (ba "Notes" 299),ac (bJ "object.__new__"),ac (cC af)],cb "getset_descriptor" [ba "__dict__" 338,am 120,bJ "function.__dict__",bJ "function.__dict__#set"],cb "getset_descriptor" [ba "__weakref__" 340,am 120,bJ "ExceptionGroup.__weakref__",bC],cb "super" [am 120,am 120,am 120],cb "builtin_function_or_method" [bJ "object.__init_subclass__",am 120],bU [aq 1 347,ba "any" 431],bU [aq 1 347,ba "unknown" 432],bU [aq 1 347,ba "never" 433],bU [aq 1 347,ba "void" 434],bU [aq 1 347,ba "undefined" 435],bU [aq 1 347,ba "null" 436],bU [aq 1 347,ba "string" 437],bU [aq 1 347,ba "number" 438],bU [aq 2 349,aq 0 439,aq 0 440],bU [aq 2 349,aq 1 441,aq 0 442],bU [aq 1 347,ba "object" 443],bU [],bU [],bU [],bU [],bU [],bU [aq 8 361,am 136,am 137,am 138,am 139,am 140,aq 0 444],bU [aq 8 445,aq 9 446],bU [aq 6 357,am 142],bU [aq 1 347,ba "error" 447],bU [aq 2 349,aq 0 448,aq 1 449],bU [aq 2 349,aq 1 450,aq 1 451],bU [am 125,am 126,am 127,am 128,am 129,am 130,am 131,am 132,am 133,am 134,am 135,am 141,am 143,am 144,am 145,am 146],bU [aq 2 349,aq 3 351,aq 4 353,aq 5 355],bU [aq 2 349,aq 3 351,aq 4 353,aq 5 355,aq 8 361]]
noncomputable def FU (P:bY):List Obj:=[bU [],cb "builtin_function_or_method" [bJ "type.__prepare__",bn "type"],eZ (bn "dict") [cl P "__module__" 462 mx,cl P "__qualname__" 464 (ba "TypeTable" 463),bB P "__firstlineno__" 466 86,a7 P "__init__" 474 163,a7 P "row" 482 170,a7 P "put" 491 177,a7 P "__static_attributes__" 502 178] 7,bU [],iP [aq 88 0,aq 4 0,am 162,aq 102 0,aq 4 0,am 169,aq 105 0,aq 4 0,am 176],cb "code" [ba "TypeTable" 457,ba "TypeTable" 458,ba "/claim/cut.py" 459,aq 86 0,aq 0 0,aq 0 0,aq 0 0,aq 0 0,am 153,cC ai,aq 181 0,am 154,bC,bC,bC,bC,aq 460 0,aq 86 0,ba "/claim/cut.py" 461],jA "frame" ah [ac (am 155),ac (am 3),ac (am 152),ah,ac mx,ah,ac (am 0)]]++fn (jY 56) "TypeTable." mx [(0,467,157,["row"]),(1,475,164,[]),(2,483,171,["t"])]++[oQ 492 ["bounds","decls","defaults","index","names","origins","putting","renamed","rows","shaping"],eZ (bn "dict") [cl P "__module__" 462 mx,bB P "__firstlineno__" 466 86,a7 P "__init__" 474 163,a7 P "row" 482 170,a7 P "put" 491 177,a7 P "__static_attributes__" 502 178,a7 P "__dict__" 504 181,a7 P "__weakref__" 506 182,cl P "__doc__" 507 bC] 4,j7 "TypeTable" [bn "object"] [am 180,bn "object"] 179 "TypeTable" [] [ah,ah,ac (ba "TypeTable" 455),ac (ba "TypeTable" 463),ac (bJ "object.__new__"),ac (cC af)],cb "getset_descriptor" [ba "__dict__" 503,am 180,bJ "function.__dict__",bJ "function.__dict__#set"],cb "getset_descriptor" [ba "__weakref__" 505,am 180,bJ "ExceptionGroup.__weakref__",bC],cb "super" [am 180,am 180,am 180],cb "builtin_function_or_method" [bJ "object.__init_subclass__",am 180]]++fn fV "" mx xd
noncomputable def L1 (P:bY) (o:cj):List Obj:=fn fV "" mx v4++[bU [aq 1 347,aq 2 349,aq 3 351,aq 4 353,aq 5 355],bU [aq 11 367,aq 12 369],bU [aq 8 361,aq 9 363],bU [aq 10 365,aq 14 373,aq 15 375,aq 16 377,aq 17 379,aq 18 381,aq 19 383],bU [aq 6 357,aq 7 359],bU [aq 6 357,aq 7 359,aq 10 365,aq 14 373,aq 15 375,aq 16 377,aq 17 379,aq 18 381,aq 19 383],bU [],cb "builtin_function_or_method" [bJ "type.__prepare__",bn "type"],eZ (bn "dict") [cl P "__module__" 733 jB,cl P "__qualname__" 735 (ba "RelRule" 734),bB P "__firstlineno__" 737 239,a7 P "holds" 747 345,a7 P "loose" 757 352,a7 P "sig" 767 359,a7 P "blank" 776 366,a7 P "tells" 786 373,a7 P "__static_attributes__" 787 374] 9,bU [],iP [aq 241 0,aq 4 0,am 344,aq 244 0,aq 4 0,am 351,aq 247 0,aq 4 0,am 358,aq 250 0,aq 4 0,am 365,aq 253 0,aq 4 0,am 372],cb "code" [ba "RelRule" 728,ba "RelRule" 729,ba "/claim/cut.py" 730,aq 239 0,aq 0 0,aq 0 0,aq 0 0,aq 0 0,am 335,cC ai,aq 181 0,am 336,bC,bC,bC,bC,aq 731 0,aq 239 0,ba "/claim/cut.py" 732],jA "frame" ah [ac (am 337),ac (am 3),ac (am 334),ah,ac jB,ah,ac (am 0)]]++fn (jY 97) "RelRule." jB [(0,738,339,[]),(1,748,346,[]),(2,758,353,[]),(3,768,360,[]),(4,777,367,[])]++[bU [],eZ (bn "dict") [cl P "__module__" 733 jB,bB P "__firstlineno__" 737 239,a7 P "holds" 747 345,a7 P "loose" 757 352,a7 P "sig" 767 359,a7 P "blank" 776 366,a7 P "tells" 786 373,a7 P "__static_attributes__" 787 374,a7 P "__dict__" 789 377,a7 P "__weakref__" 791 378,cl P "__doc__" 792 bC] 4,o,cb "getset_descriptor" [ba "__dict__" 788,am 376,bJ "function.__dict__",bJ "function.__dict__#set"],cb "getset_descriptor" [ba "__weakref__" 790,am 376,bJ "ExceptionGroup.__weakref__",bC],cb "super" [am 376,am 376,am 376],cb "builtin_function_or_method" [bJ "object.__init_subclass__",am 376]]
noncomputable def Mi (P:bY):List Obj:=[bU [],cb "builtin_function_or_method" [bJ "type.__prepare__",bn "type"],eZ (bn "dict") [cl P "__module__" 802 jB,cl P "__qualname__" 804 (ba "Rel" 803),bB P "__firstlineno__" 806 255,a7 P "__init__" 815 394,a7 P "ask" 824 401,a7 P "note" 832 408,a7 P "same" 841 415,a7 P "mark" 848 422,a7 P "back" 856 429,a7 P "infer_sig" 865 436,a7 P "__static_attributes__" 880 437] 11,bU [],iP [aq 257 0,aq 4 0,am 393,aq 273 0,aq 4 0,am 400,aq 276 0,aq 4 0,am 407,aq 280 0,aq 4 0,am 414,aq 283 0,aq 4 0,am 421,aq 286 0,aq 4 0,am 428,aq 289 0,aq 4 0,am 435],cb "code" [ba "Rel" 797,ba "Rel" 798,ba "/claim/cut.py" 799,aq 255 0,aq 0 0,aq 0 0,aq 0 0,aq 0 0,am 384,cC ai,aq 181 0,am 385,bC,bC,bC,bC,aq 800 0,aq 255 0,ba "/claim/cut.py" 801],jA "frame" ah [ac (am 386),ac (am 3),ac (am 383),ah,ac jB,ah,ac (am 0)]]++fn (jY 98) "Rel." jB [(0,807,388,[]),(1,816,395,[]),(2,825,402,[]),(3,833,409,[]),(4,842,416,[]),(5,849,423,[]),(6,857,430,[])]++[oQ 866 ["assumed","at","deep","host","known","looks","missing","mode","notes","road","rules","telling","trail","twin"],eZ (bn "dict") [cl P "__module__" 802 jB,bB P "__firstlineno__" 806 255,a7 P "__init__" 815 394,a7 P "ask" 824 401,a7 P "note" 832 408,a7 P "same" 841 415,a7 P "mark" 848 422,a7 P "back" 856 429,a7 P "infer_sig" 865 436,a7 P "__static_attributes__" 880 437,a7 P "__dict__" 882 440,a7 P "__weakref__" 884 441,cl P "__doc__" 885 bC] 4,j7 "Rel" [bn "object"] [am 439,bn "object"] 438 "Rel" [] [ah,ah,ac (ba "Rel" 795),ac (ba "Rel" 803),ac (bJ "object.__new__"),ac (cC af)],cb "getset_descriptor" [ba "__dict__" 881,am 439,bJ "function.__dict__",bJ "function.__dict__#set"],cb "getset_descriptor" [ba "__weakref__" 883,am 439,bJ "ExceptionGroup.__weakref__",bC],cb "super" [am 439,am 439,am 439],cb "builtin_function_or_method" [bJ "object.__init_subclass__",am 439]]++fn fV "" jB vD
noncomputable def MV (P:bY):List Obj:=fn fV "" jB vo++fn fV "" (ba "kindkeep.typeops" 1123) wW++[bU [aq 11 367,aq 12 369]]++fn fV "" PD wP
noncomputable def L5 (P:bY):List Obj:=[bU [],cb "builtin_function_or_method" [bJ "type.__prepare__",bn "type"],eZ (bn "dict") [cl P "__module__" 1171 mh,cl P "__qualname__" 1173 (ba "Thin" 1172),bB P "__firstlineno__" 1175 536,a7 P "__init__" 1183 645,a7 P "force" 1191 652,a7 P "put_deferred" 1199 659,a7 P "put_cond" 1208 666,a7 P "lay_row" 1217 673,a7 P "bound" 1225 680,a7 P "shape" 1233 687,a7 P "fits" 1242 694,a7 P "lies" 1251 701,a7 P "infers" 1261 708,a7 P "tpl_fits" 1270 715,a7 P "shape_fits" 1279 722,a7 P "put_in" 1288 729,a7 P "own_sig" 1297 736,a7 P "forget" 1304 743,a7 P "list_prop" 1313 750,a7 P "list_index" 1321 757,a7 P "elem_met" 1329 764,a7 P "error_class" 1336 771,a7 P "__static_attributes__" 1342 772] 23,bU [],iP [aq 538 0,aq 4 0,am 644,aq 545 0,aq 4 0,am 651,aq 548 0,aq 4 0,am 658,aq 551 0,aq 4 0,am 665,aq 554 0,aq 4 0,am 672,aq 557 0,aq 4 0,am 679,aq 560 0,aq 4 0,am 686,aq 563 0,aq 4 0,am 693,aq 566 0,aq 4 0,am 700,aq 569 0,aq 4 0,am 707,aq 572 0,aq 4 0,am 714,aq 575 0,aq 4 0,am 721,aq 578 0,aq 4 0,am 728,aq 581 0,aq 4 0,am 735,aq 584 0,aq 4 0,am 742,aq 587 0,aq 4 0,am 749,aq 590 0,aq 4 0,am 756,aq 593 0,aq 4 0,am 763,aq 596 0,aq 4 0,am 770],cb "code" [ba "Thin" 1166,ba "Thin" 1167,ba "/claim/cut.py" 1168,aq 536 0,aq 0 0,aq 0 0,aq 0 0,aq 0 0,am 635,cC ai,aq 181 0,am 636,bC,bC,bC,bC,aq 1169 0,aq 536 0,ba "/claim/cut.py" 1170],jA "frame" ah [ac (am 637),ac (am 3),ac (am 634),ah,ac mh,ah,ac (am 0)]]++fn (jY 132) "Thin." mh [(0,1176,639,[]),(1,1184,646,[]),(2,1192,653,[]),(3,1200,660,[]),(4,1209,667,[]),(5,1218,674,[]),(6,1226,681,[]),(7,1234,688,[]),(8,1243,695,[]),(9,1252,702,[]),(10,1262,709,[]),(11,1271,716,[]),(12,1280,723,[]),(13,1289,730,[]),(14,1298,737,[]),(15,1305,744,[]),(16,1314,751,[]),(17,1322,758,[]),(18,1330,765,[])]++[oQ 1337 ["deep","lib","most_deep","most_rounds","tab"],eZ (bn "dict") [cl P "__module__" 1171 mh,bB P "__firstlineno__" 1175 536,a7 P "__init__" 1183 645,a7 P "force" 1191 652,a7 P "put_deferred" 1199 659,a7 P "put_cond" 1208 666,a7 P "lay_row" 1217 673,a7 P "bound" 1225 680,a7 P "shape" 1233 687,a7 P "fits" 1242 694,a7 P "lies" 1251 701,a7 P "infers" 1261 708,a7 P "tpl_fits" 1270 715,a7 P "shape_fits" 1279 722,a7 P "put_in" 1288 729,a7 P "own_sig" 1297 736,a7 P "forget" 1304 743,a7 P "list_prop" 1313 750,a7 P "list_index" 1321 757,a7 P "elem_met" 1329 764,a7 P "error_class" 1336 771,a7 P "__static_attributes__" 1342 772,a7 P "__dict__" 1344 775,a7 P "__weakref__" 1346 776,cl P "__doc__" 1347 bC] 4,j7 "Thin" [bn "object"] [am 774,bn "object"] 773 "Thin" [] [ah,ah,ac (ba "Thin" 1164),ac (ba "Thin" 1172),ac (bJ "object.__new__"),ac (cC af)],cb "getset_descriptor" [ba "__dict__" 1343,am 774,bJ "function.__dict__",bJ "function.__dict__#set"],cb "getset_descriptor" [ba "__weakref__" 1345,am 774,bJ "ExceptionGroup.__weakref__",bC],cb "super" [am 774,am 774,am 774],cb "builtin_function_or_method" [bJ "object.__init_subclass__",am 774]]++fn fV "" mh wm
noncomputable def Nj (P:bY):List Obj:=fn fV "" mh uI++fn fV "" (ba "kindkeep.excess" 1465) wD++[bU [am 376],cb "builtin_function_or_method" [bJ "type.__prepare__",bn "type"],eZ (bn "dict") [cl P "__module__" 1490 j2,cl P "__qualname__" 1492 (ba "TellsRule" 1491),bB P "__firstlineno__" 1494 680,a7 P "tells" 1504 894,a7 P "__static_attributes__" 1505 895] 5,bU [],iP [aq 682 0,aq 4 0,am 893],cb "code" [ba "TellsRule" 1485,ba "TellsRule" 1486,ba "/claim/cut.py" 1487,aq 680 0,aq 0 0,aq 0 0,aq 0 0,aq 0 0,am 884,cC ai,aq 181 0,am 885,bC,bC,bC,bC,aq 1488 0,aq 680 0,ba "/claim/cut.py" 1489],jA "frame" ah [ac (am 886),ac (am 3),ac (am 883),ah,ac j2,ah,ac (am 0)]]++fn (jY 152) "TellsRule." j2 [(0,1495,888,[])]++[bU [],eZ (bn "dict") [cl P "__module__" 1490 j2,bB P "__firstlineno__" 1494 680,a7 P "tells" 1504 894,a7 P "__static_attributes__" 1505 895,cl P "__doc__" 1506 bC] 2,j7 "TellsRule" [am 376] [am 897,am 376,bn "object"] 896 "TellsRule" [] [ac (am 881),ah,ac (ba "TellsRule" 1483),ac (ba "TellsRule" 1491),ac (bJ "object.__new__"),ac (cC af)],cb "super" [am 897,am 897,am 897],cb "builtin_function_or_method" [bJ "object.__init_subclass__",am 897]]++fn fV "" j2 xG
noncomputable def Jx (P:bY):List Obj:=[bU [am 376],cb "builtin_function_or_method" [bJ "type.__prepare__",bn "type"],eZ (bn "dict") [cl P "__module__" 1561 j2,cl P "__qualname__" 1563 (ba "PlacesRule" 1562),bB P "__firstlineno__" 1565 725,a7 P "holds" 1575 939,a7 P "__static_attributes__" 1576 940] 5,bU [],iP [aq 727 0,aq 4 0,am 938],cb "code" [ba "PlacesRule" 1556,ba "PlacesRule" 1557,ba "/claim/cut.py" 1558,aq 725 0,aq 0 0,aq 0 0,aq 0 0,aq 0 0,am 929,cC ai,aq 181 0,am 930,bC,bC,bC,bC,aq 1559 0,aq 725 0,ba "/claim/cut.py" 1560],jA "frame" ah [ac (am 931),ac (am 3),ac (am 928),ah,ac j2,ah,ac (am 0)]]++fn (jY 157) "PlacesRule." j2 [(0,1566,933,[])]++[bU [],eZ (bn "dict") [cl P "__module__" 1561 j2,bB P "__firstlineno__" 1565 725,a7 P "holds" 1575 939,a7 P "__static_attributes__" 1576 940,cl P "__doc__" 1577 bC] 2,j7 "PlacesRule" [am 376] [am 942,am 376,bn "object"] 941 "PlacesRule" [] [ac (am 926),ah,ac (ba "PlacesRule" 1554),ac (ba "PlacesRule" 1562),ac (bJ "object.__new__"),ac (cC af)],cb "super" [am 942,am 942,am 942],cb "builtin_function_or_method" [bJ "object.__init_subclass__",am 942]]++fn fV "" j2 xD++fn fV "" nx w9
noncomputable def Qo (P:bY):List Obj:=[bU [am 376],cb "builtin_function_or_method" [bJ "type.__prepare__",bn "type"],eZ (bn "dict") [cl P "__module__" 1714 nx,cl P "__qualname__" 1716 (ba "RellistListRule" 1715),bB P "__firstlineno__" 1718 827,a7 P "holds" 1728 1048,a7 P "__static_attributes__" 1729 1049] 5,bU [],iP [aq 829 0,aq 4 0,am 1047],cb "code" [ba "RellistListRule" 1709,ba "RellistListRule" 1710,ba "/claim/cut.py" 1711,aq 827 0,aq 0 0,aq 0 0,aq 0 0,aq 0 0,am 1038,cC ai,aq 181 0,am 1039,bC,bC,bC,bC,aq 1712 0,aq 827 0,ba "/claim/cut.py" 1713],jA "frame" ah [ac (am 1040),ac (am 3),ac (am 1037),ah,ac nx,ah,ac (am 0)]]++fn (jY 173) "RellistListRule." nx [(0,1719,1042,[])]++[bU [],eZ (bn "dict") [cl P "__module__" 1714 nx,bB P "__firstlineno__" 1718 827,a7 P "holds" 1728 1048,a7 P "__static_attributes__" 1729 1049,cl P "__doc__" 1730 bC] 2,j7 "RellistListRule" [am 376] [am 1051,am 376,bn "object"] 1050 "RellistListRule" [] [ac (am 1035),ah,ac (ba "RellistListRule" 1707),ac (ba "RellistListRule" 1715),ac (bJ "object.__new__"),ac (cC af)],cb "super" [am 1051,am 1051,am 1051],cb "builtin_function_or_method" [bJ "object.__init_subclass__",am 1051]]++fn fV "" nx wb++[bU [aq 1 1742,aq 2 1743,aq 8 1744,aq 32 1745,aq 64 1746,aq 128 1747,aq 7 1748,aq 24 1749]]++fn fV "" xv uK
noncomputable def Ma (P:bY):List (List eT):=[N8 P,Nt P,KI P,Nk P,Ho P,Ga P,JC P,Lz P,Nf P,GO P,M' P]
noncomputable def IN:List (List aV):=[Gu,PB,K0,Oq,ID,Mb,Hc,Lh,GI,FL,K8]
noncomputable def QB (P:bY) (r:List aV):List (List cj):=[Py P (j7 "KeepError" [bn "Exception"] [am 39,bn "Exception",bn "BaseException",bn "object"] 38 "KeepError" [am 60,am 80] [ac (am 22),ah,ac (ba "KeepError" 204),ac (ba "KeepError" 212),ac (bJ "Exception.__new__"),ac (cC af)]),PY P,FU P,L1 P (j7 "RelRule" [bn "object"] [am 376,bn "object"] 375 "RelRule" r [ah,ah,ac (ba "RelRule" 726),ac (ba "RelRule" 734),ac (bJ "object.__new__"),ac (cC af)]),Mi P,MV P,L5 P,Nj P,Jx P,Qo P]
noncomputable def jK (P:bY):Obj:=eZ bC [cl P "type.__subclasses__.Exception.0" 231 (aq 39 0),cl P "type.__subclasses__.Exception.n" 232 (aq 1 0)] 2
noncomputable def IA (P:bY) (k:Nat) (m:aV) (z:Nat):Obj:=eZ (bn "dict") (cl P "__name__" 165 m::((Ma P).take (k+1)).flatten) z
noncomputable def BQ (P:bY) (k:Nat) (o:cj) (m:aV) (z:Nat) (r:List aV):List Obj:=LS P o (IA P k m z) (iP ((IN.take (k+1)).flatten))++((QB P r).take k).flatten
noncomputable def CF:List Value:=[am 897,am 942,am 1051]
noncomputable def N2 (P:bY):List Obj:=BQ P 10 (jK P) xv 195 (CF.take 3)
noncomputable def jN (w:bZ) (os:ew) (k:Nat) (o:cj) (m:aV) (z:Nat) (r:Nat) (n t:Nat):SharedT:=⟨yS 12 (BQ w.params k o m z (CF.take r)),n,{},Array.mk [],{},t,os⟩
noncomputable def tj (w:bZ) (os:ew):SharedT:=jN w os 0 (eZ bC [] 0) Cp 9 0 15 187
noncomputable def zo (w:bZ) (os:ew):SharedT:=jN w os 1 (jK w.params) hf 17 0 83 291
noncomputable def B_ (w:bZ) (os:ew):SharedT:=jN w os 2 (jK w.params) mx 63 0 150 455
noncomputable def AE (w:bZ) (os:ew):SharedT:=jN w os 3 (jK w.params) mx 83 0 319 683
noncomputable def zp (w:bZ) (os:ew):SharedT:=jN w os 4 (jK w.params) jB 104 0 381 795
noncomputable def zI (w:bZ) (os:ew):SharedT:=jN w os 5 (jK w.params) jB 120 0 549 1028
noncomputable def A4 (w:bZ) (os:ew):SharedT:=jN w os 6 (jK w.params) mh 135 0 632 1164
noncomputable def zm (w:bZ) (os:ew):SharedT:=jN w os 7 (jK w.params) mh 138 0 793 1366
noncomputable def Bj (w:bZ) (os:ew):SharedT:=jN w os 8 (jK w.params) j2 158 1 926 1554
noncomputable def CX (w:bZ) (os:ew):SharedT:=jN w os 9 (jK w.params) nx 173 2 1035 1707
noncomputable def rX (w:bZ) (os:ew):SharedT:=jN w os 10 (jK w.params) xv 195 3 1181 1935
noncomputable abbrev mS:Env:={scope:=aC.main.scope,locals:=mainNs,globals:=mainNs,cells:=[],code:=am 13,frame:=ac 14}
noncomputable abbrev sQ:List Stmt:=behindTheImports aC
noncomputable abbrev jC:Code:=.body sQ mS
noncomputable abbrev nt:Option Value:=ac (am 6)
noncomputable def vx:List Stmt:=(aC.main.body.drop 0).take 9
noncomputable def vh:List Stmt:=(aC.main.body.drop 9).take 47
noncomputable def xC:List Stmt:=(aC.main.body.drop 56).take 20
noncomputable def vt:List Stmt:=(aC.main.body.drop 76).take 22
noncomputable def uT:List Stmt:=(aC.main.body.drop 98).take 16
noncomputable def u3:List Stmt:=(aC.main.body.drop 114).take 18
noncomputable def vY:List Stmt:=(aC.main.body.drop 132).take 3
noncomputable def xJ:List Stmt:=(aC.main.body.drop 135).take 22
noncomputable def ww:List Stmt:=(aC.main.body.drop 157).take 16
noncomputable def vU:List Stmt:=(aC.main.body.drop 173).take 23
def jq (w:bZ) (c:List di) (f:Nat) (S T:jk) (p q:Pos):Prop:=segRunT pK aC w 11 nt 1 f S (piecesOf c mS jC p [og hm])=ac (h6,T,jC,q)
theorem kN {w:bZ} {c:List di} {f:Nat} {S T:jk} {p q:Pos} (h:Tq Tp aC w 11 nt 1 f S (piecesOf c mS jC p [og hm])=ac (h6,T,jC,q)):jq w c f S T p q:=by
 unfold jq;rw[T2,QD];exact h
theorem LB (w:bZ) (os:ew):jq w vx 804 (tj w os) (zo w os) ⟨0,0,0,0⟩ ⟨19,0,23,24⟩:=kN (by kernel_rfl)
theorem FF (w:bZ) (os:ew):jq w vh 852 (zo w os) (B_ w os) ⟨19,0,23,24⟩ ⟨85,0,85,11⟩:=kN (by kernel_rfl)
theorem Kr (w:bZ) (os:ew):jq w xC 889 (B_ w os) (AE w os) ⟨85,0,85,11⟩ ⟨212,0,214,49⟩:=kN (by kernel_rfl)
theorem Pj (w:bZ) (os:ew):jq w vt 626 (AE w os) (zp w os) ⟨212,0,214,49⟩ ⟨239,0,254,39⟩:=kN (by kernel_rfl)
theorem JU (w:bZ) (os:ew):jq w uT 901 (zp w os) (zI w os) ⟨239,0,254,39⟩ ⟨410,0,423,39⟩:=kN (by kernel_rfl)
theorem Np (w:bZ) (os:ew):jq w u3 447 (zI w os) (A4 w os) ⟨410,0,423,39⟩ ⟨535,0,535,11⟩:=kN (by kernel_rfl)
theorem G3 (w:bZ) (os:ew):jq w vY 872 (A4 w os) (zm w os) ⟨535,0,535,11⟩ ⟨602,0,608,22⟩:=kN (by kernel_rfl)
theorem M5 (w:bZ) (os:ew):jq w xJ 814 (zm w os) (Bj w os) ⟨602,0,608,22⟩ ⟨711,0,724,15⟩:=kN (by kernel_rfl)
theorem EY (w:bZ) (os:ew):jq w ww 681 (Bj w os) (CX w os) ⟨711,0,724,15⟩ ⟨813,0,826,45⟩:=kN (by kernel_rfl)
theorem M0 (w:bZ) (os:ew):jq w vU 891 (CX w os) (rX w os) ⟨813,0,826,45⟩ ⟨994,0,1027,45⟩:=kN (by kernel_rfl)
noncomputable def nA:List Str:=(["_wall","U_ANY","U_PROP","U_ENUM","U_VAR","KeepError","TooDeep","HostFault","Notes","Y_KEY","Y_BOOL","Y_STR","Y_NUM","Y_ENUM","Y_UNION","Y_INTER","Y_OBJ","Y_REF","Y_PARAM","Y_ARRAY","Y_TUPLE","Y_SIG","Y_KEYOF","Y_INDEX","Y_COND"]:List br)++(["Y_MAPPED","Y_TPL","Y_ALIAS","ANY","UNKNOWN","NEVER","VOID","UNDEF","NULLT","STRING","NUMBER","FALSE_T","TRUE_T","OBJECTT","EMPTY","ERR","FRESH_F","FRESH_T","P_OPT","P_PRIVATE","P_PROTECTED","E_NEED","E_OPT","E_REST","E_SPREAD"]:List br)++(["MAX_UNION","FIRST_ROWS","LITERAL_ROWS","MARKED_ROWS","TypeTable","str_type","num_type","bool_type","array_type","last_mark","needed_to_last","one_rest","tuple_type","parts_of","whole_of_row","regular_twin","join_bools","stays_beside","top_of","union","add_undef","is_literal","is_unit","is_fresh","regular_one"]:List br)++(["R_ASSIGN","R_COMPARE","R_IDENT","R_SUBTYPE","RULE_MEET","RULE_DEFERRED","RULE_SIG","RULE_LIST","RULE_OBJECT","RULE_CHOICE","RULE_PLACES","RULE_TELLS","VALUE_ROWS","LIST_ROWS_relbase","SHAPED_ROWS","DEFERRED_ROWS","OPEN_ROWS","MAX_OPEN","MOST_LOOKS","RelRule","Rel","by_rule","silent_with","twin_of","cut_back"]:List br)++(["settled","ask_kinds","relbase_kept","close_trail","tells","taken_wider","simple_related","tops_related","unknown_told","is_numeric_enum","values_related","number_to_enum","structured","rule_for","from_union","some_part","lay_again","to_union","same_kind","each_in","all_units","LIST_ROWS_shapes","hidden_apart","final_parts","MOST_ROUNDS"]:List br)++(["MOST_SHAPES","Thin","elem_read","told_places","find_prop","is_digits","place_of","is_number_name","prop_row","read_type","late_place","list_read","index_read","part_type","prop_type","tuple_at","is_tag","tells_apart","MAX_COMBOS","TellsRule","relate_told_apart","all_choices","split_places","by_places","PlacesRule"]:List br)++(["install_rel_tells","install_rel_places","least_length","open_place","elem_for","lengths_fit","place_pairs","is_unsettled","by_marks","pairs_hold","spreads_laid","tuples_hold","into_array","tuple_related","RellistListRule","install_rel_lists","_law_points","_law_take","_law_plain","_law_kind","_law_source","_law_flat","_law_with","_law_cover","_law_turn"]:List br)++(["_law_mask","_law_bits","_law_slots","_law_lies","_law_reads","_law_ways","_law_takers","_law_union","_law_list","_law_parts"]:List br)
theorem HH:sQ=vx++(vh++(xC++(vt++(uT++(u3++(vY++(xJ++(ww++(vU++[]))))))))):=by kernel_rfl
theorem Pk (w:bZ) (os:ew):topGo pK aC w 11 nt 12 ⟨oc w.params,Array.mk [],EQ,EU,os⟩ (topStub aC)=ac ((tj w os).abs,⟨denote pK jC,jC,hm,[og hm]⟩):=by
 rw[TZ,QD,T1];kernel_rfl
theorem Ji (w:bZ) (os:ew):segRun pK aC w 11 nt 1 1 (tj w os).abs (blockOf sQ mS jC hm [og hm])=ac (h6,(tj w os).abs,jC,hm):=by kernel_rfl
theorem Ov (w:bZ) (os:ew):topRun pK aC w 11 nt 3 (rX w os).abs (restOf [] mS jC ⟨994,0,1027,45⟩ [og hm])=ac (rX w os).abs:=by kernel_rfl
theorem NI (w:bZ) (os:ew):topRun pK aC w 11 nt (12+(1+(804+(852+(889+(626+(901+(447+(872+(814+(681+(891+3)))))))))))) ⟨oc w.params,Array.mk [],EQ,EU,os⟩ (topStub aC)=ac (rX w os).abs:=by
 refine go_top (Pk w os) (piece_block (Ji w os) ?_);rw[show restOf sQ mS jC hm [og hm]=restOf (vx++(vh++(xC++(vt++(uT++(u3++(vY++(xJ++(ww++(vU++[])))))))))) mS jC hm [og hm] from congrArg (fun l=>restOf l mS jC hm [og hm]) HH];refine lT (lS (LB w os)) ?_;refine lT (lS (FF w os)) ?_;refine lT (lS (Kr w os)) ?_;refine lT (lS (Pj w os)) ?_;refine lT (lS (JU w os)) ?_;refine lT (lS (Np w os)) ?_;refine lT (lS (G3 w os)) ?_;refine lT (lS (M5 w os)) ?_;refine lT (lS (EY w os)) ?_;refine lT (lS (M0 w os)) ?_;exact Ov w os
noncomputable def cO (P:bY):Heap:=absHeap (yS 12 (N2 P)) 1181 {}
noncomputable def zY:Nat:=1935
noncomputable abbrev lC:Program:={aC with main:={aC.main with body:=[fV 195]}}
theorem Os:∀w:bZ,(fencedOpening pK aC w 20000).map (fun s=>(s.heap,s.gens,s.drawn,s.toks))=ac (oc w.params,Array.mk [],EQ,EU):=
 boot_open (by kernel_rfl) (by decide) (fun s=>rfl)
theorem K3 (w:bZ):((oc w.params).isNs n_&&(Array.mk []:Array GenState).size==0,(oc w.params).objs.size,(oc w.params).nsMap n_ "__annotations__")=(af,11,nt):=by kernel_rfl
noncomputable abbrev z0 (w:bZ) (os:ew):Shared:=⟨cO w.params,Array.mk [],{},zY,os⟩
theorem OO (w:bZ):staticsOk (Ej aC.main.body) (oc w.params) (cO w.params)=true:=by kernel_rfl
theorem NO (w:bZ):namesBound aC (cO w.params)=true:=by kernel_rfl
theorem E8 (w:bZ) (os:ew):gensDone (z0 w os)=true:=by kernel_rfl
theorem ND (w:bZ):laidKept (oc w.params) (cO w.params)=true:=by kernel_rfl
theorem PO (w:bZ) (os:ew):openSeen lC nA (Ej aC.main.body) (fun _=>af) af (z0 w os)=openGood lC nA:=by
 rw[Tw];kernel_rfl
theorem Ig:LeftO aC lC nA (fun _=>af) (fun s=>s.heap) (fun w=>cO w.params) 20000:=
 LeftO.of_pieces (H₁:=cO) (gs₁:=Array.mk []) (d₁:={}) (k₁:=zY) (M:=12+(1+(804+(852+(889+(626+(901+(447+(872+(814+(681+(891+3)))))))))))) Os K3 NI (by decide) (fun w=>funext fun o=>by
  rw[OO w,NO w,E8 w o,ND w,PO w o];rfl)
noncomputable abbrev cY:OpenLaw:=Dk
noncomputable def j_:DefRec:=match fV 195 with|.FunctionDef n a b _ _ _ s _ _ p=>⟨n,a,b,s,p⟩|_=>⟨"",⟨[],[],ah,[],[],ah,[]⟩,[],⟨k4,[],ai,ai,[]⟩,hm⟩
theorem P1:defOf lC cY.row.name=ac (j_,[]):=by kernel_rfl
theorem LI:cY.row.prog.theDef cY.row.name=ac (j_.params,j_.body,j_.scope):=by kernel_rfl
theorem IK:kwWritten? j_.params.kwonlyargs j_.params.kw_defaults=ac []:=by kernel_rfl
theorem Mw:chainsOk lC=true:=by kernel_rfl
theorem Qr:opensWell cY.row.prog=true:=by kernel_rfl
theorem GR:(frees cY.row.toRowW&&cY.row.within.isEmpty)=true:=by kernel_rfl
theorem N5:aC.tablesWhole=true:=by
 unfold Program.tablesWhole TablesWhole.wProgram TablesWhole.holds;rw[Tv,Tz];kernel_rfl
theorem J4:cY.row.prog.bare:=⟨rfl,rfl,rfl,rfl,rfl,N5⟩
theorem JJ:cY.row.toRowW.promised:=⟨[uD []],by decide+kernel,by decide+kernel⟩
def r8 (w:bZ) (h:fT):Prop:=∀b o,(cO w.params).get? b=ac o→h.get? b=ac o
theorem M2 (a:cY.row.wellSaid=af) (c:WalkO lC nA (fun _ _=>True) r8 cY.row.toRowW j_ [] (fun f vs=>gN f vs)):cY.row.Holds:=
 holds_open (r:=cY.row) (q:=lC) (loose:=nA) (Xt:=fun _=>af) (XP:=fun _ _=>True) (Yf:=fun s=>s.heap) (Ya:=fun w=>cO w.params) (YP:=r8) (N:=20000)
  Ig (fun w s e b o q=>by rw[show s.heap=cO w.params from e];exact q) (fun w h d x k b o q=>k _ _ (x b o q)) (fun _ _=>trivial) (fun _ _ _ _ _=>trivial)
  P1 LI IK (fun s _=>recFacts_nil rfl) rfl a (by rw[Mw,Qr,GR];rfl) J4 JJ c
theorem Hl:namesResolve cY.row.prog=true:=by rewrite [Tt];kernel_rfl
theorem OV:(cY.row.prog.boundNames.all fun n=> !worldNames.contains n)=true:=by rewrite [QC];kernel_rfl
theorem Mk:(namesMeet cY.row.prog cY.row.prog.main.body fun x n=>attrL n)=true:=by rewrite [xP];kernel_rfl
theorem JL:defStands cY.about cY.above=true:=by rewrite [Ts];kernel_rfl
theorem LP:cY.namesIt=true:=by rewrite [Tx];kernel_rfl
theorem FJ:(cY.bound'.all fun n=> !builtinNamed n||cY.about==[n]|| !cY.reads n)=true:=by rewrite [QG];kernel_rfl
theorem E0:noRoadLSs {strict:=af,foot:=ac cY.bound',writes:=cY.writes,may:=cY.may} cY.footing=true:=by rewrite [QE,QG];kernel_rfl
theorem JT:noClassBlock cY.prog cY.footing=true:=by rewrite [Tu];kernel_rfl
theorem Kl:(namesMeet cY.prog cY.above fun x n=> !cY.own.contains n)=true:=by rewrite [xP,xQ];kernel_rfl
theorem OR:cY.row.solid=true:=by rewrite [T0];kernel_rfl
theorem JV:cY.footing.all footLine=true:=by kernel_rfl
theorem Hy:(cY.own.all fun n=> !builtinNamed n)=true:=by rewrite [xQ];kernel_rfl
theorem K7:noRoadLSs {strict:= !(Ej cY.row.prog.main.body).all cThrough.contains,foot:=ah,bare:=(["vars","dir","locals"]:List br).filter (readsOut cY.row.prog cY.row.prog.main.body)} cY.row.prog.main.body=true:=by rewrite [QE];kernel_rfl
theorem NT:Rv cY=true:=by
 unfold Rv OpenRow.wellSaid OpenRow.partSaid looksOpen
 repeat refine look_both ?_ ?_
 ·kernel_rfl
 ·kernel_rfl
 ·kernel_rfl
 ·exact Hl
 ·exact OV
 ·exact K7
 ·exact Mk
 ·kernel_rfl
 ·kernel_rfl
 ·kernel_rfl
 ·kernel_rfl
 ·kernel_rfl
 ·kernel_rfl
 ·exact OR
 ·kernel_rfl
 ·kernel_rfl
 ·kernel_rfl
 ·kernel_rfl
 ·kernel_rfl
 ·kernel_rfl
 ·rewrite [QC];kernel_rfl
 ·kernel_rfl
 ·kernel_rfl
 ·exact JV
 ·exact JT
 ·kernel_rfl
 ·kernel_rfl
 ·exact E0
 ·exact JL
 ·exact LP
 ·kernel_rfl
 ·exact FJ
 ·kernel_rfl
 ·kernel_rfl
 ·rewrite [xP];kernel_rfl
 ·rewrite [xQ];kernel_rfl
 ·rewrite [xQ];kernel_rfl
 ·exact Hy
 ·exact Kl
 ·rewrite [xP];kernel_rfl
theorem FO (c:WalkO lC nA (fun _ _=>True) r8 cY.row.toRowW j_ [] (fun f vs=>gN f vs)):PySem.Challenge.rw_rh0138_01.Holds:=
 holds_law NT fun k=>M2 k c
end
inductive ht where
 |n (k:Nat)
 |v (i:Nat)
 |a (x y:ht)
 |m (k:Nat) (x:ht)
 |w (x:ht) (k:Nat)
inductive i6 where
 |g (k:Nat) (l r:ht)
 |c (k:Nat) (l r:ht) (t:i6)
noncomputable def ht.d (c:List Nat) (e:ht):Nat:=ht.rec (fun k=>k) (fun i=>c.getD i 0) (fun _ _ x y=>x+y) (fun k _ x=>k*x) (fun _ k x=>x*k) e
def i6.d (c:List Nat) (t:i6):Prop:=i6.rec (fun _ l r=>l.d c≤r.d c) (fun _ l r _ t=>l.d c≤r.d c→t) t
noncomputable def kz (x:List Nat):List Nat→List Nat:=yB (fun y=>y) (fun a r i y=>cn y (a::r) fun b s=>(a+b)::i s) x
noncomputable def qM (x:List Nat):List Nat→Bool:=yB (fun _=>af) (fun a r i y=>cn y (d3 a 0&&i []) fun b s=>fx a b&&i s) x
noncomputable def ht.cf (e:ht):List Nat:=ht.rec (fun k=>[k]) (fun i=>0::(cx i 0++[1])) (fun _ _ x y=>kz x y) (fun k _ x=>x.map (k*·)) (fun _ k x=>x.map (k*·)) e
noncomputable def i6.ck (t:i6):List Nat→List Nat→Bool:=i6.rec (fun k l r R L=>fx 1 k&&qM (kz (l.cf.map (k*·)) R) (kz (r.cf.map (k*·)) (kz L [k-1]))) (fun k l r _ t R L=>t (kz (r.cf.map (k*·)) R) (kz (l.cf.map (k*·)) L)) t
noncomputable def iJ (x:List Nat):List Nat→Nat:=yB (fun _=>0) (fun a r i c=>cn c 0 fun b s=>a*b+i s) x
theorem oX:∀{y c},iJ (kz x y) c=iJ x c+iJ y c:=by
 induction x with
 |nil=>intro y c;exact(jI _).symm
 |cons a r i=>intro y c;cases y with
  |nil=>rfl
  |cons b s=>cases c with
   |nil=>rfl
   |cons e t=>exact(congrArg ((a+b)*e+·) i).trans (by rw[uk,Nat.add_add_add_comm];rfl)
theorem oE:∀{c},iJ (x.map (k*·)) c=k*iJ x c:=by
 induction x with
 |nil=>intro c;rfl
 |cons a r i=>intro c;cases c with
  |nil=>rfl
  |cons e t=>exact(congrArg (k*a*e+·) i).trans (by rw[Ek,←EH];rfl)
theorem Ol:∀{y c},qM x y=af→iJ x c≤iJ y c:=by
 induction x with
 |nil=>intro y c _;exact cA _
 |cons a r i=>intro y c h;cases y with
  |nil=>
   have h:=(fu ..).mp (show(d3 a 0&&qM r [])=af from h);cases c with
   |nil=>exact bv _
   |cons e t=>exact a9 (by show a*e+iJ r t=0;rw[jd h.1,Es,jI];exact rv.mp (i (y:=[]) h.2))
  |cons b s=>
   have h:=(fu ..).mp (show(fx a b&&qM r s)=af from h);cases c with
   |nil=>exact bv _
   |cons e t=>exact dd (pq _ (lM h.1)) (i h.2)
theorem Qs:∀{c:List Nat},iJ (cx i 0++[1]) c=c.getD i 0:=by
 induction i with
 |zero=>intro c;cases c with
  |nil=>rfl
  |cons b s=>exact ru b
 |succ i I=>intro c;cases c with
  |nil=>rfl
  |cons b s=>exact(congrArg (·+iJ (cx i 0++[1]) s) (Es b)).trans ((jI _).trans I)
theorem ht.ok (e:ht):iJ e.cf (1::c)=e.d c:=by
 induction e with
 |n k=>exact lR k
 |v i=>exact(jI _).trans Qs
 |a x y s t=>exact oX.trans (congr (congrArg _ s) t)
 |m k x h=>exact oE.trans (congrArg _ h)
 |w x k h=>exact oE.trans ((congrArg _ h).trans (Ev ..))
theorem i6.ok {c:List Nat} (t:i6):∀{R L},iJ L (1::c)≤iJ R (1::c)→t.ck R L=af→t.d c:=by
 induction t with
 |g k l r=>
  intro R L h e;have e:=(fu ..).mp (show(fx 1 k&&qM (kz (l.cf.map (k*·)) R) (kz (r.cf.map (k*·)) (kz L [k-1])))=af from e);have q:=Ol (c:=1::c) e.2;rw[oX,oX,oX,oE,oE,l.ok,r.ok] at q;have z:iJ [k-1] (1::c)=k-1:=lR _;rw[z] at q;have q:k*l.d c≤k*r.d c+(k-1):=Nat.le_of_add_le_add_right (ao q (by rw[ev,f_ (k-1)];exact ci (dc h _) _));refine dC fun n=> ?_;have p:=ao (fh k n) q;rw[Eu] at p;exact Nat.not_succ_le_self _ (jg (Nat.le_of_add_le_add_left p) (Nat.sub_lt (lM e.1) pB))
 |c k l r t i=>
  intro R L h e x;exact i (by rw[oX,oX,oE,oE,l.ok,r.ok];exact dd (fh k x) h) e
theorem eJ (c:List Nat) (t:i6) (h:t.ck [] []=af):t.d c:=t.ok (bv _) h
noncomputable def ht.b:ht:=.v 0
noncomputable def ht.f:ht:=.v 1
noncomputable def ht.g:ht:=.v 2
noncomputable def ht.j:ht:=.v 3
noncomputable def ht.l:ht:=.v 4
noncomputable def ht.o:ht:=.v 5
noncomputable def ht.p:ht:=.v 6
noncomputable def ht.q:ht:=.v 7
noncomputable def ht.r:ht:=.v 8
noncomputable def S0:ht:=.v 9
noncomputable def ht.n0:ht:=.n 0
noncomputable def ht.n1:ht:=.n 1
noncomputable def ht.n2:ht:=.n 2
theorem dN (t:i6) (h:t.ck [] []=af):t.d [a0]:=eJ _ t h
theorem cD (t:i6) (h:t.ck [] []=af):t.d [a0,a1]:=eJ _ t h
theorem b5 (t:i6) (h:t.ck [] []=af):t.d [a0,a1,a2]:=eJ _ t h
theorem b7 (t:i6) (h:t.ck [] []=af):t.d [a0,a1,a2,a3]:=eJ _ t h
theorem eY (t:i6) (h:t.ck [] []=af):t.d [a0,a1,a2,a3,a]:=eJ _ t h
theorem j' (t:i6) (h:t.ck [] []=af):t.d [a0,a1,a2,a3,a,A]:=eJ _ t h
theorem lz (t:i6) (h:t.ck [] []=af):t.d [a0,a1,a2,a3,a,A,b]:=eJ _ t h
theorem s6 (t:i6) (h:t.ck [] []=af):t.d [a0,a1,a2,a3,a,A,b,c]:=eJ _ t h
theorem qg (t:i6) (h:t.ck [] []=af):t.d [a0,a1,a2,a3,a,A,b,c,d]:=eJ _ t h
theorem S8 (t:i6) (h:t.ck [] []=af):t.d [a0,a1,a2,a3,a,A,b,c,d,e]:=eJ _ t h
abbrev aJ:= @if_pos
abbrev aL:= @if_neg
abbrev aS:= @congrArg
noncomputable abbrev aR:= @absurd
abbrev cu:= @decide_eq_true
abbrev cP:= @decide_eq_false
abbrev dB:= @of_decide_eq_true
abbrev k0:= @decide_eq_true_iff
abbrev iX:= @beq_self_eq_true
abbrev k3:= @exists_congr
abbrev c5:= @beq_eq_false_iff_ne
abbrev dL:= @beq_iff_eq
abbrev k5:= @bne_iff_ne
abbrev n7:= @decide_eq_decide
abbrev rk:= @of_decide_eq_false
abbrev n6:= @decide_eq_true_eq
abbrev uh:= @and_congr_right
universe u v
theorem aY {a b:Nat} (e:fx a b=af):a≤b:=lM e
theorem bl {a b c:Nat} (h:b≤c) (e:fx a b=af):a≤c:=ao (aY e) h
theorem aD {a b c:Nat} (h:a≤b) (e:fx b c=af):a≤c:=ao h (aY e)
@[elab_as_elim] theorem ak {α:Sort u} {motive:α→Prop} {a b:α} (h:a=b) (x:motive b):motive a:=h▸x
theorem sz {P:Prop} (h:∀G:Prop,(P→G)→G):P:=h P id
theorem iM {α:Type u} {x:α} {P:Prop} (h:ah=ac x):P:=nomatch h
theorem hU {P:Prop} (h:ai=af):P:=nomatch h
section
variable{P Q R S T U V W X:Prop} {G:Prop}
theorem fg (p:P) (q:Q) (r:R):P∧Q∧R:=⟨p,q,r⟩
theorem nf (p:P) (q:Q) (r:R) (s:S):P∧Q∧R∧S:=⟨p,q,r,s⟩
theorem kG (p:P) (q:Q) (r:R) (s:S) (t:T):P∧Q∧R∧S∧T:=⟨p,q,r,s,t⟩
theorem HC (p:P) (q:Q) (r:R) (s:S) (t:T) (a:U):P∧Q∧R∧S∧T∧U:=⟨p,q,r,s,t,a⟩
theorem Hn (p:P) (q:Q) (r:R) (s:S) (t:T) (a:U) (b:V) (c:W):P∧Q∧R∧S∧T∧U∧V∧W:=⟨p,q,r,s,t,a,b,c⟩
theorem CL (p:P) (q:Q) (r:R) (s:S) (t:T) (a:U) (b:V) (c:W) (d:X):P∧Q∧R∧S∧T∧U∧V∧W∧X:=⟨p,q,r,s,t,a,b,c,d⟩
theorem dQ (h:P∧Q∧R) (q:P→Q→R→G):G:=q h.1 h.2.1 h.2.2
theorem iD (h:P∧Q∧R∧S) (q:P→Q→R→S→G):G:=q h.1 h.2.1 h.2.2.1 h.2.2.2
theorem jc (h:P∧Q∧R∧S∧T) (q:P→Q→R→S→T→G):G:=q h.1 h.2.1 h.2.2.1 h.2.2.2.1 h.2.2.2.2
theorem HF (h:P∧Q∧R∧S∧T∧U) (q:P→Q→R→S→T→U→G):G:=q h.1 h.2.1 h.2.2.1 h.2.2.2.1 h.2.2.2.2.1 h.2.2.2.2.2
end
section
variable{α:Sort _} {P Q R S T U:α→Prop} {G:Prop}
theorem bd (j:α) (p:P j) (q:Q j):∃x,P x∧Q x:=⟨j,p,q⟩
theorem g2 (j:α) (p:P j) (q:Q j) (r:R j):∃x,P x∧Q x∧R x:=⟨j,fg p q r⟩
theorem y6 (j:α) (p:P j) (q:Q j) (r:R j) (s:S j):∃x,P x∧Q x∧R x∧S x:=⟨j,nf p q r s⟩
theorem vz (j:α) (p:P j) (q:Q j) (r:R j) (s:S j) (t:T j):∃x,P x∧Q x∧R x∧S x∧T x:=⟨j,kG p q r s t⟩
theorem Li (j:α) (p:P j) (q:Q j) (r:R j) (s:S j) (t:T j) (a:U j):∃x,P x∧Q x∧R x∧S x∧T x∧U x:=⟨j,HC p q r s t a⟩
theorem ay (h:∃x,P x∧Q x) (q:∀x,P x→Q x→G):G:=h.elim fun x h=>q x h.1 h.2
theorem eA (h:∃x,P x∧Q x∧R x) (q:∀x,P x→Q x→R x→G):G:=h.elim fun x h=>dQ h (q x)
theorem qx (h:∃x,P x∧Q x∧R x∧S x) (q:∀x,P x→Q x→R x→S x→G):G:=h.elim fun x h=>iD h (q x)
theorem vK (h:∃x,P x∧Q x∧R x∧S x∧T x) (q:∀x,P x→Q x→R x→S x→T x→G):G:=h.elim fun x h=>jc h (q x)
theorem LH (h:∃x,P x∧Q x∧R x∧S x∧T x∧U x) (q:∀x,P x→Q x→R x→S x→T x→U x→G):G:=h.elim fun x h=>HF h (q x)
end
section
variable{α:Sort _} {β:Sort _} {P Q R S T U:α→β→Prop} {G:Prop}
theorem oZ (j:α) (k:β) (p:P j k):∃x y,P x y:=⟨j,k,p⟩
theorem cN (j:α) (k:β) (p:P j k) (q:Q j k):∃x y,P x y∧Q x y:=⟨j,bd k p q⟩
theorem es (j:α) (k:β) (p:P j k) (q:Q j k) (r:R j k):∃x y,P x y∧Q x y∧R x y:=⟨j,g2 k p q r⟩
theorem hK (j:α) (k:β) (p:P j k) (q:Q j k) (r:R j k) (s:S j k):∃x y,P x y∧Q x y∧R x y∧S x y:=⟨j,y6 k p q r s⟩
theorem Mq (j:α) (k:β) (p:P j k) (q:Q j k) (r:R j k) (s:S j k) (t:T j k):∃x y,P x y∧Q x y∧R x y∧S x y∧T x y:=⟨j,vz k p q r s t⟩
theorem M4 (j:α) (k:β) (p:P j k) (q:Q j k) (r:R j k) (s:S j k) (t:T j k) (a:U j k):∃x y,P x y∧Q x y∧R x y∧S x y∧T x y∧U x y:=⟨j,Li k p q r s t a⟩
theorem oy (h:∃x y,P x y) (q:∀x y,P x y→G):G:=h.elim fun x h=>h.elim (q x)
theorem bK (h:∃x y,P x y∧Q x y) (q:∀x y,P x y→Q x y→G):G:=h.elim fun x h=>ay h (q x)
theorem cF (h:∃x y,P x y∧Q x y∧R x y) (q:∀x y,P x y→Q x y→R x y→G):G:=h.elim fun x h=>eA h (q x)
theorem ii (h:∃x y,P x y∧Q x y∧R x y∧S x y) (q:∀x y,P x y→Q x y→R x y→S x y→G):G:=h.elim fun x h=>qx h (q x)
theorem C2 (h:∃x y,P x y∧Q x y∧R x y∧S x y∧T x y) (q:∀x y,P x y→Q x y→R x y→S x y→T x y→G):G:=h.elim fun x h=>vK h (q x)
theorem Cj (h:∃x y,P x y∧Q x y∧R x y∧S x y∧T x y∧U x y) (q:∀x y,P x y→Q x y→R x y→S x y→T x y→U x y→G):G:=h.elim fun x h=>LH h (q x)
end
section
variable{α:Sort _} {β:Sort _} {γ:Sort _} {P Q R S T U:α→β→γ→Prop} {G:Prop}
theorem zy (j:α) (k:β) (l:γ) (p:P j k l):∃x y z,P x y z:=⟨j,oZ k l p⟩
theorem iT (j:α) (k:β) (l:γ) (p:P j k l) (q:Q j k l):∃x y z,P x y z∧Q x y z:=⟨j,cN k l p q⟩
theorem mT (j:α) (k:β) (l:γ) (p:P j k l) (q:Q j k l) (r:R j k l):∃x y z,P x y z∧Q x y z∧R x y z:=⟨j,es k l p q r⟩
theorem IS (j:α) (k:β) (l:γ) (p:P j k l) (q:Q j k l) (r:R j k l) (s:S j k l):∃x y z,P x y z∧Q x y z∧R x y z∧S x y z:=⟨j,hK k l p q r s⟩
theorem rW (j:α) (k:β) (l:γ) (p:P j k l) (q:Q j k l) (r:R j k l) (s:S j k l) (t:T j k l):∃x y z,P x y z∧Q x y z∧R x y z∧S x y z∧T x y z:=⟨j,Mq k l p q r s t⟩
theorem sg (j:α) (k:β) (l:γ) (p:P j k l) (q:Q j k l) (r:R j k l) (s:S j k l) (t:T j k l) (a:U j k l):∃x y z,P x y z∧Q x y z∧R x y z∧S x y z∧T x y z∧U x y z:=⟨j,M4 k l p q r s t a⟩
theorem BW (h:∃x y z,P x y z) (q:∀x y z,P x y z→G):G:=h.elim fun x h=>oy h (q x)
theorem hQ (h:∃x y z,P x y z∧Q x y z) (q:∀x y z,P x y z→Q x y z→G):G:=h.elim fun x h=>bK h (q x)
theorem jS (h:∃x y z,P x y z∧Q x y z∧R x y z) (q:∀x y z,P x y z→Q x y z→R x y z→G):G:=h.elim fun x h=>cF h (q x)
theorem wu (h:∃x y z,P x y z∧Q x y z∧R x y z∧S x y z) (q:∀x y z,P x y z→Q x y z→R x y z→S x y z→G):G:=h.elim fun x h=>ii h (q x)
theorem xf (h:∃x y z,P x y z∧Q x y z∧R x y z∧S x y z∧T x y z) (q:∀x y z,P x y z→Q x y z→R x y z→S x y z→T x y z→G):G:=h.elim fun x h=>C2 h (q x)
theorem lf (h:∃x y z,P x y z∧Q x y z∧R x y z∧S x y z∧T x y z∧U x y z) (q:∀x y z,P x y z→Q x y z→R x y z→S x y z→T x y z→U x y z→G):G:=h.elim fun x h=>Cj h (q x)
end
section
variable{α:Sort _} {β:Sort _} {γ:Sort _} {δ:Sort _} {P Q R S T:α→β→γ→δ→Prop} {G:Prop}
theorem Bo (j:α) (k:β) (l:γ) (m:δ) (p:P j k l m) (q:Q j k l m):∃x y z u,P x y z u∧Q x y z u:=⟨j,iT k l m p q⟩
theorem BZ (j:α) (k:β) (l:γ) (m:δ) (p:P j k l m) (q:Q j k l m) (r:R j k l m):∃x y z u,P x y z u∧Q x y z u∧R x y z u:=⟨j,mT k l m p q r⟩
theorem xF (j:α) (k:β) (l:γ) (m:δ) (p:P j k l m) (q:Q j k l m) (r:R j k l m) (s:S j k l m):∃x y z u,P x y z u∧Q x y z u∧R x y z u∧S x y z u:=⟨j,IS k l m p q r s⟩
theorem Ao (j:α) (k:β) (l:γ) (m:δ) (p:P j k l m) (q:Q j k l m) (r:R j k l m) (s:S j k l m) (t:T j k l m):∃x y z u,P x y z u∧Q x y z u∧R x y z u∧S x y z u∧T x y z u:=⟨j,rW k l m p q r s t⟩
theorem sp (h:∃x y z u,P x y z u∧Q x y z u) (q:∀x y z u,P x y z u→Q x y z u→G):G:=h.elim fun x h=>hQ h (q x)
theorem IB (h:∃x y z u,P x y z u∧Q x y z u∧R x y z u) (q:∀x y z u,P x y z u→Q x y z u→R x y z u→G):G:=h.elim fun x h=>jS h (q x)
theorem Oz (h:∃x y z u,P x y z u∧Q x y z u∧R x y z u∧S x y z u) (q:∀x y z u,P x y z u→Q x y z u→R x y z u→S x y z u→G):G:=h.elim fun x h=>wu h (q x)
theorem P7 (h:∃x y z u,P x y z u∧Q x y z u∧R x y z u∧S x y z u∧T x y z u) (q:∀x y z u,P x y z u→Q x y z u→R x y z u→S x y z u→T x y z u→G):G:=h.elim fun x h=>xf h (q x)
end
section
variable{α:Sort _} {β:Sort _} {γ:Sort _} {δ:Sort _} {ε:Sort _} {P Q R S:α→β→γ→δ→ε→Prop} {G:Prop}
theorem yL (j:α) (k:β) (l:γ) (m:δ) (n:ε) (p:P j k l m n) (q:Q j k l m n) (r:R j k l m n) (s:S j k l m n):∃x y z u v,P x y z u v∧Q x y z u v∧R x y z u v∧S x y z u v:=⟨j,xF k l m n p q r s⟩
theorem NX (h:∃x y z u v,P x y z u v∧Q x y z u v) (q:∀x y z u v,P x y z u v→Q x y z u v→G):G:=h.elim fun x h=>sp h (q x)
theorem FH (h:∃x y z u v,P x y z u v∧Q x y z u v∧R x y z u v∧S x y z u v) (q:∀x y z u v,P x y z u v→Q x y z u v→R x y z u v→S x y z u v→G):G:=h.elim fun x h=>Oz h (q x)
end
set_option genInjectivity true in
inductive aj where
 |none
 |bool (b:Bool)
 |int (i:Int)
 |str (s:Str)
 |j (ds:List aj)
 |c (ds:List aj)
 |e (a:List (aj×aj))
 |inst (k:Nat)
 |box (k x:Nat)
open aj renaming bool→aA,box→da,inst→an,int→ae,none→a4,str→bP
noncomputable def aj.ctorIdx (d:aj):Nat:=d.casesOn 0 (fun _=>1) (fun _=>2) (fun _=>3) (fun _=>4) (fun _=>5) (fun _=>6) (fun _=>7) fun _ _=>8
inductive b0 where
 |c (ds:List aj)
 |e (k:List (aj×aj))
noncomputable def b0.frz:b0→aj
 |.c d=>.c d
 |.e k=>.e k
inductive ig where
 |l (d:aj)
 |own (c:b0)
 |a (c:b0)
open ig renaming own→bE
noncomputable def ig.ctorIdx (d:ig):Nat:=d.casesOn (fun _=>0) (fun _=>1) fun _=>2
abbrev au:=List (Nat×ig)
inductive im where
 |l (d:aj)
 |box (c:b0)
open im renaming box→b1
structure oD where
 cls:Nat
 attrs:List (Nat×im)
abbrev ar:=List oD
inductive e4 where
 |a (x:Nat)
 |b (s:List Nat)
inductive bt where
 |v
 |h (d:aj)
 |f (x:Nat)
 |w (r:Operator) (a b:bt)
 |q (a:bt)
 |k (r:CmpOp) (a b:bt)
 |s (o p:CmpOp) (a b c:bt)
 |and (e:List bt)
 |or (e:List bt)
 |l (c a b:bt)
 |j (e:List bt)
 |list (e:List bt)
 |y
 |sub (a i:bt)
 |n (a:bt) (L z:Option bt)
 |attr (a:bt) (x:Nat)
 |call (g:Nat) (A:List bt)
 |u (a:bt) (m:Nat) (A:List bt)
 |comp (E:bt) (t:e4) (I:bt) (B:List bt)
open bt renaming and→cd,attr→aX,call→ap,comp→dY,list→dn,or→cV,sub→az
mutual
noncomputable def aj.beq:aj→aj→Bool
 |.none,.none=>af
 |.bool a,.bool b=>a==b
 |.int a,.int b=>a==b
 |.str a,.str b=>a==b
 |.j a,.j b=>hX a b
 |.c a,.c b=>hX a b
 |.inst a,.inst b=>a==b
 |.box a x,.box b y=>a==b&&x==y
 |_,_=>ai
noncomputable def hX:List aj→List aj→Bool
 |[],[]=>af
 |a::r,b::t=>aj.beq a b&&hX r t
 |_,_=>ai
end
noncomputable def aj.plain:Nat→aj→Bool
 |_,.none=>af
 |_,.int _=>af
 |_,.str s=>s.cps.all (·<0x110000)
 |n+1,.j d=>d.all (aj.plain n)
 |n+1,.c d=>d.all (aj.plain n)
 |_,_=>ai
noncomputable def aj.key:Nat→aj→Bool
 |_,.int _=>af
 |_,.str s=>s.cps.all (·<0x110000)
 |n+1,.j d=>d.all (aj.key n)
 |_,_=>ai
noncomputable def j9:aj→Bool
 |.int _=>af
 |_=>ai
noncomputable def ja:aj→Bool
 |.j _=>af
 |_=>ai
noncomputable def cT (k:aj) (s:List (aj×aj)):Bool:=aj.key 8 k&&match s with
 |[]=>j9 k||ja k
 |(x,_)::_=>(j9 x&&j9 k)||(ja x&&ja k)
noncomputable def b4:Nat:=1000000
noncomputable def f3 (k:aj):List (aj×aj)→Option aj
 |[]=>ah
 |(x,v)::r=>if aj.beq x k then ac v else f3 k r
noncomputable def dA (k:aj):List (aj×aj)→Bool
 |[]=>ai
 |(x,_)::r=>aj.beq x k||dA k r
noncomputable def gd (k v:aj):List (aj×aj)→List (aj×aj)
 |[]=>[(k,v)]
 |(x,w)::r=>if aj.beq x k then(x,v)::r else(x,w)::gd k v r
noncomputable def hR (k:aj):List (aj×aj)→List (aj×aj)
 |[]=>[]
 |(x,w)::r=>if aj.beq x k then r else(x,w)::hR k r
theorem y0 {k x v:aj} {r:List (aj×aj)}:f3 k ((x,v)::r)=if aj.beq x k then ac v else f3 k r:=rfl
theorem u1 {k x v:aj} {r:List (aj×aj)}:dA k ((x,v)::r)=(aj.beq x k||dA k r):=rfl
theorem uY {k v x w:aj} {r:List (aj×aj)}:gd k v ((x,w)::r)=if aj.beq x k then(x,v)::r else(x,w)::gd k v r:=rfl
theorem M1 {k x w:aj} {r:List (aj×aj)}:hR k ((x,w)::r)=if aj.beq x k then r else(x,w)::hR k r:=rfl
noncomputable def JW (i:Int):Bool:=aM (-(2^62)<i∧i<2^62)
noncomputable def lr {α:Type} (f:Int→Option α) (d:aj):Option α:=match d with
 |.int i=>f i
 |_=>ah
noncomputable def iL {α:Type} (f:Int→Int→Option α) (a b:aj):Option α:=lr (fun i=>lr (f i) b) a
noncomputable def eP (o:m7) (a b:aj):Option aj:=match o with
 |.Add=>match a with
  |.c x=>match b with
   |.c y=>if x.length+y.length≤b4 then ac (.c (x++y)) else ah
   |_=>ah
  |.j x=>match b with
   |.j y=>if x.length+y.length≤b4 then ac (.j (x++y)) else ah
   |_=>ah
  |a=>iL (fun i j=>ac (ae (i+j))) a b
 |.Sub=>iL (fun i j=>ac (ae (i-j))) a b
 |.Mult=>match a with
  |.c x=>lr (fun j=>if-1000≤j∧j≤1000∧x.length≤1000 then ac (.c ((cx j.toNat x).flatten)) else ah) b
  |a=>iL (fun i j=>if JW j then ac (ae (i*j)) else ah) a b
 |.Mod=>iL (fun i j=>if 0<j then ac (ae (uu i j)) else ah) a b
 |.FloorDiv=>iL (fun i j=>if 0<j∧j<1000000 then ac (ae (Int.fdiv i j)) else ah) a b
 |.BitAnd=>iL (fun i j=>ac (ae (D4 i j))) a b
 |.BitOr=>iL (fun i j=>ac (ae (ub i j))) a b
 |_=>ah
noncomputable def o':m_→Int→Int→Option Bool
 |.Lt,a,b=>ac (aM (a<b))
 |.LtE,a,b=>ac (aM (a≤b))
 |.Gt,a,b=>ac (aM (b<a))
 |.GtE,a,b=>ac (aM (b≤a))
 |_,_,_=>ah
noncomputable def tN (a b:aj):Option Bool:=match a with
 |.bool x=>match b with
  |.bool y=>ac (x==y)
  |_=>ah
 |a=>if aj.plain 8 a&&aj.plain 8 b then ac (aj.beq a b) else ah
noncomputable def wc:aj→Option Bool
 |.none=>ac af
 |.j _=>ac ai
 |.c _=>ac ai
 |.e _=>ac ai
 |.inst _=>ac ai
 |.box _ _=>ac ai
 |_=>ah
noncomputable def z9:aj→Option Bool
 |.none=>ac ai
 |.bool b=>ac b
 |.int i=>ac (i !=0)
 |.str s=>if s.cps.size≤1000000 then ac (!s.cps.isEmpty) else ah
 |.j d=>ac (!d.isEmpty)
 |.c d=>ac (!d.isEmpty)
 |_=>ah
noncomputable def i2 (i:Int) (n:Nat):Option Nat:=if 0≤i then(if i<n then ac i.toNat else ah) else(if 0≤i+n then ac (i+n).toNat else ah)
noncomputable def lH (i:Int) (n:Nat):Nat:=if 0≤i then hF i.toNat n else(i+n).toNat
noncomputable def dH (l:List α) (L h:Option Int):List α:=
 let a:=match L with|none=>0|some i=>lH i l.length
 let b:=match h with|none=>l.length|some i=>lH i l.length
 (l.take b).drop a
noncomputable def bG (x:Nat):au→Option ig
 |[]=>ah
 |(y,s)::r=>if y=x then ac s else bG x r
noncomputable def f8 (x:Nat) (s:ig):au→au
 |[]=>[(x,s)]
 |(y,t)::r=>if y=x then(y,s)::r else(y,t)::f8 x s r
noncomputable def lu (x:Nat) (f:au):Option (aj×au):=match bG x f with
 |some (.l d)=>ac (d,f)
 |some (.own c)=>ac (c.frz,f8 x (.l c.frz) f)
 |_=>ah
noncomputable def gR (x:Nat) (f:au):Option b0:=match bG x f with
 |some (.own c)=>ac c
 |some (.a c)=>ac c
 |_=>ah
noncomputable def jr (x:Nat) (c:b0) (f:au):Option au:=match bG x f with
 |some (.own _)=>ac (f8 x (bE c) f)
 |some (.a _)=>ac (f8 x (.a c) f)
 |_=>ah
noncomputable def nL:List (Nat×Nat):=[(109,120),(156,180),(198,439),(232,774),(252,897),(257,942),(273,1051)]
noncomputable def eL (c:Nat):Nat:=(nL.lookup c).getD 0
noncomputable def jT:List Nat:=[0,1,8,10,11,12,13,14,15,16,18,19,20,21,36,37,38,39,40,41,42,43,48,49,50,52,53,54]
noncomputable def wF:List (Nat×Nat×Nat×Nat):=[(109,34,1360,96),(109,7,1361,103),(109,31,1362,110),(109,35,1363,117),
 (156,34,3240,163),(156,44,3241,170),(156,7,3242,177),
 (198,34,4920,394),(198,25,4921,401),(198,23,4922,408),(198,24,4923,415),(198,22,4924,422),(198,26,4925,429),
 (232,34,6280,645),(232,17,6281,652),(232,27,6285,680),(232,28,6295,750),
 (252,30,7080,894),(257,9,7280,939),(273,9,7920,1048)]
noncomputable def GX:List (Nat×Nat):=[(100,21),(157,192),(158,200),(159,208),(160,216),(161,223),(162,230),(163,237),(164,243),(165,250),(166,257),(167,264),(168,271),(169,278),(170,285),(171,290),(172,297),(173,304),(174,311),(175,318),(176,325),(199,450),(200,457),(201,464),(202,471),(203,478),(204,485),(205,492),(206,499),(207,506),(208,513),(209,520),(210,527),(211,534),(212,541),(213,548),(214,555),(215,562),(216,569),(217,576),(218,583),(219,590),(220,597),(221,604),(222,611),(224,616),(227,624),(228,631),(233,785),(234,792),(235,799),(236,804),(237,811),(238,818),(239,825),(240,832),(241,837),(242,844),(243,851),(244,858),(245,863),(246,870),(248,875),(249,880),(253,906),(254,913),(255,920),(256,925),(258,951),(259,958),(261,963),(262,970),(263,977),(264,984),(265,989),(266,994),(267,1001),(268,1008),(269,1015),(270,1020),(271,1027),(272,1034),(274,1060),(277,1068),(278,1075),(279,1080),(280,1085),(281,1092),(282,1099),(283,1106),(284,1113),(285,1120),(286,1125),(287,1132),(288,1139),(289,1146),(290,1151),(291,1156),(292,1163),(293,1168),(294,1175),(295,1180),(106,39),(107,60),(108,80),(109,120),(156,180),(197,376),(198,439),(232,774),(252,897),(257,942),(273,1051)]
noncomputable def mo (g:Nat):Nat:=(GX.lookup g).getD 0
noncomputable def jb:List (Nat×Nat×Nat):=[(100,21,20),(157,192,191),(158,200,199),(159,208,207),(160,216,215),(161,223,222),(162,230,229),(163,237,236),(164,243,242),(165,250,249),(166,257,256),(167,264,263),(168,271,270),(169,278,277),(170,285,284),(171,290,289),(172,297,296),(173,304,303),(174,311,310),(175,318,317),(176,325,324),(199,450,449),(200,457,456),(201,464,463),(202,471,470),(203,478,477),(204,485,484),(205,492,491),(206,499,498),(207,506,505),(208,513,512),(209,520,519),(210,527,526),(211,534,533),(212,541,540),(213,548,547),(214,555,554),(215,562,561),(216,569,568),(217,576,575),(218,583,582),(219,590,589),(220,597,596),(221,604,603),(222,611,610),(224,616,615),(227,624,623),(228,631,630),(233,785,784),(234,792,791),(235,799,798),(236,804,803),(237,811,810),(238,818,817),(239,825,824),(240,832,831),(241,837,836),(242,844,843),(243,851,850),(244,858,857),(245,863,862),(246,870,869),(248,875,874),(249,880,879),(253,906,905),(254,913,912),(255,920,919),(256,925,924),(258,951,950),(259,958,957),(261,963,962),(262,970,969),(263,977,976),(264,984,983),(265,989,988),(266,994,993),(267,1001,1000),(268,1008,1007),(269,1015,1014),(270,1020,1019),(271,1027,1026),(272,1034,1033),(274,1060,1059),(277,1068,1067),(278,1075,1074),(279,1080,1079),(280,1085,1084),(281,1092,1091),(282,1099,1098),(283,1106,1105),(284,1113,1112),(285,1120,1119),(286,1125,1124),(287,1132,1131),(288,1139,1138),(289,1146,1145),(290,1151,1150),(291,1156,1155),(292,1163,1162),(293,1168,1167),(294,1175,1174),(295,1180,1179),(1240,36,35),(1280,57,56),(1320,77,76),(1360,96,95),(1361,103,102),(1362,110,109),(1363,117,116),(3240,163,162),(3241,170,169),(3242,177,176),(4880,345,344),(4881,352,351),(4882,359,358),(4883,366,365),(4884,373,372),(4920,394,393),(4921,401,400),(4922,408,407),(4923,415,414),(4924,422,421),(4925,429,428),(4926,436,435),(6280,645,644),(6281,652,651),(6282,659,658),(6283,666,665),(6284,673,672),(6285,680,679),(6286,687,686),(6287,694,693),(6288,701,700),(6289,708,707),(6290,715,714),(6291,722,721),(6292,729,728),(6293,736,735),(6294,743,742),(6295,750,749),(6296,757,756),(6297,764,763),(6298,771,770),(7080,894,893),(7280,939,938),(7920,1048,1047)]
noncomputable def j6 (c:Nat):Bool:=(nL.lookup c).isSome
noncomputable def ie (k x:Nat) (Y:ar):Option im:=if jT.contains x then(Y[k]?).bind fun i=>i.attrs.lookup x else ah
noncomputable def tg (x:Nat) (v:im):List (Nat×im)→List (Nat×im)
 |[]=>[(x,v)]
 |(y,w)::r=>if y=x then(y,v)::r else(y,w)::tg x v r
noncomputable def gg (k x:Nat) (v:im) (Y:ar):Option ar:=if jT.contains x then(match Y[k]?with
 |some i=>ac (Y.set k {i with attrs:=tg x v i.attrs})
 |none=>ah) else ah
noncomputable def dW (k x:Nat) (Y:ar):Option b0:=match ie k x Y with
 |some (.box c)=>ac c
 |_=>ah
noncomputable def jn (k x:Nat):Bool:=(k==0&&x==0)||(k==2&&x==1)
inductive fN where
 |c (ds:List aj)
 |j (ds:List aj)
 |e (k:List (aj×aj))
 |str (s:Str)
open fN renaming str→ko
noncomputable def b0.sq:b0→fN
 |.c d=>.c d
 |.e k=>.e k
noncomputable def aj.sq (Y:ar):aj→Option fN
 |.c d=>ac (.c d)
 |.j d=>ac (.j d)
 |.e a=>ac (.e a)
 |.str s=>ac (ko s)
 |.box k x=>(dW k x Y).map b0.sq
 |_=>ah
mutual
noncomputable def bt.simple:bt→Bool
 |.h _=>af
 |.f _=>af
 |.j E=>lL E
 |.sub a i=>a.simple&&i.simple
 |.n a L c=>a.simple&&nJ L&&nJ c
 |.attr a _=>a.simple
 |.w _ a b=>a.simple&&b.simple
 |.u (.attr a _) m []=>a.simple&&m==2
 |_=>ai
noncomputable def lL:List bt→Bool
 |[]=>af
 |e::r=>e.simple&&lL r
noncomputable def nJ:Option bt→Bool
 |none=>af
 |some e=>e.simple
end
inductive cR where
 |next
 |o
 |cont
 |h (d:aj)
open cR renaming cont→iz,next→a'
inductive fJ where
 |l (d:aj)
 |a (c:b0)
inductive ny where
 |slot (x:Nat)
 |sq (d:aj)
open ny renaming slot→g',sq→dI
noncomputable def ny.now (c:ny) (f:au) (Y:ar):Option fN:=match c with
 |.slot x=>(gR x f).map b0.sq
 |.sq d=>d.sq Y
noncomputable def ny.box:ny→Bool
 |.sq (.box _ _)=>af
 |_=>ai
noncomputable def ez (q:fN) (d:aj):Option aj:=match q with
 |.c D=>lr (fun i=>(i2 i D.length).bind fun j=>D[j]?) d
 |.j D=>lr (fun i=>(i2 i D.length).bind fun j=>D[j]?) d
 |.e k=>if cT d k then f3 d k else ah
 |.str s=>if s.cps.size≤b4 then lr (fun i=>(i2 i s.cps.size).bind fun j=>(s.cps[j]?).map fun c=>bP ⟨#[c]⟩) d else ah
noncomputable def f9 (l h:Option Int):fN→Option aj
 |.c d=>ac (.c (dH d l h))
 |.j d=>ac (.j (dH d l h))
 |.str s=>if s.cps.size≤b4 then ac (bP ⟨(dH s.cps.toList l h).toArray⟩) else ah
 |_=>ah
noncomputable def rM:fN→Nat
 |.c d=>d.length
 |.j d=>d.length
 |.e k=>k.length
 |.str s=>s.cps.size
noncomputable def cZ (d:aj):fN→Option Bool
 |.c D=>if aj.plain 8 d&&D.all (aj.plain 8) then ac (D.any fun x=>aj.beq x d) else ah
 |.j D=>if aj.plain 8 d&&D.all (aj.plain 8) then ac (D.any fun x=>aj.beq x d) else ah
 |.e k=>if cT d k then ac (dA d k) else ah
 |_=>ah
noncomputable def se:fN→List aj
 |.c d=>d
 |.j d=>d
 |.e k=>k.map (·.1)
 |.str s=>s.cps.toList.map fun c=>bP ⟨#[c]⟩
noncomputable def vW (o:m_) (a b:aj):Option Bool:=match o with
 |.Eq=>tN a b
 |.NotEq=>(tN a b).map (!·)
 |.Is=>match b with
  |.none=>wc a
  |_=>ah
 |.IsNot=>match b with
  |.none=>(wc a).map (!·)
  |_=>ah
 |o=>iL (o' o) a b
noncomputable def oU (c m:Nat):Option Nat:=(wF.find? fun r=>r.1==c&&r.2.1==m).map (·.2.2.1)
noncomputable def kD (g:Nat):Option (Option Nat):=if[252,257,273].contains g then ac ah else(oU g 34).map ac
structure ha where
 modes:Nat→List Bool
noncomputable def G0 (a b:br):Bool:= !(aM (b.cps.toList<a.cps.toList))
noncomputable def mM (a:Int):List Int→List Int
 |[]=>[a]
 |b::r=>if a≤b then a::b::r else b::mM a r
noncomputable def nB:List Int→List Int
 |[]=>[]
 |a::r=>mM a (nB r)
noncomputable def tL:List aj→Option (List Int)
 |[]=>ac []
 |.int i::r=>(tL r).map (i::·)
 |_::_=>ah
noncomputable def na:List aj→Option Bool
 |[]=>ac af
 |.bool b::r=>(na r).map fun c=>b&&c
 |_::_=>ah
noncomputable def f4 (a b:Int):List aj:=(cv (b-a).toNat).map fun(k:Nat)=>ae (a+(k:Int))
noncomputable def sA (ms:List Bool) (e:bt) (f:au):Option Nat:=match ms,e with
 |true::_,.f x=>if(gR x f).isSome then ac x else ah
 |_,_=>ah
noncomputable def iK:List (aj⊕Nat)→List Nat
 |[]=>[]
 |.inl _::r=>iK r
 |.inr x::r=>x::iK r
noncomputable def ll (f:au):List (aj⊕Nat)→Option (List fJ)
 |[]=>ac []
 |.inl d::r=>(ll f r).map (.l d::·)
 |.inr x::r=>do
  let c←gR x f
  (ll f r).map (.a c::·)
noncomputable def qd:List Nat→List b0→au→Option au
 |[],[],f=>ac f
 |x::X,c::C,f=>(jr x c f).bind (qd X C)
 |_,_,_=>ah
noncomputable def vj:List Nat→Bool
 |[]=>af
 |x::r=> !r.contains x&&vj r
noncomputable def P5 (d:aj):Option (List aj):=match d with
 |.c y=>ac y
 |.j y=>ac y
 |_=>ah
noncomputable def fL (m:Nat) (c:b0) (ds:List aj):Option (aj×b0):=match c with
 |.e _=>ah
 |.c x=>match ds with
  |[]=>cond (d3 m 2) (match x.getLast? with
   |some d=>ac (d,.c x.dropLast)
   |none=>ah) (cond (d3 m 6) (ac (a4,.c x.reverse)) ah)
  |[d]=>cond (d3 m 3) (if x.length≤b4 then ac (a4,.c (x++[d])) else ah) (cond (d3 m 4) (match P5 d with
   |some y=>if x.length+y.length≤b4 then ac (a4,.c (x++y)) else ah
   |none=>ah) ah)
  |_=>ah
noncomputable def gy (b:Option (Nat×Nat)) (ds:List aj) (Y:ar):Bool:=match b with
 |none=>af
 |some (k,x)=>match dW k x Y with
  |some (.c e)=>hX e ds
  |_=>ai
noncomputable def AQ (o:m_) (a b:aj):Option Bool:=match a with
 |.str i=>match b with
  |.str j=>if o matches oq then ac (G0 i j) else ah
  |_=>ah
 |a=>iL (o' o) a b
noncomputable def HA:m7→aj→aj→Option aj
 |.Add,.int a,.int b=>ac (ae (a+b))
 |.Sub,.int a,.int b=>ac (ae (a-b))
 |.BitOr,.int a,.int b=>ac (ae (ub a b))
 |_,_,_=>ah
noncomputable def zw (k:Nat) (Y:ar):Bool:=match Y[k]?with
 |some i=>[109,156,198,232].contains i.cls
 |none=>ai
noncomputable def gT (c:b0) (i v:aj):Option b0:=match c with
 |.c d=>lr (fun k=>(i2 k d.length).map fun j=>.c (d.set j v)) i
 |.e s=>if cT i s∧s.length≤b4 then ac (.e (gd i v s)) else ah
noncomputable def j5 (x:Nat) (f:au):Bool:=match bG x f with
 |some (.a _)=>af
 |_=>ai
noncomputable def oP (x:Nat) (s:ig) (f:au):Option au:=if j5 x f then ah else ac (f8 x s f)
noncomputable def qL:List Nat→List aj→au→Option au
 |[],[],f=>ac f
 |x::X,d::D,f=>(oP x (.l d) f).bind (qL X D)
 |_,_,_=>ah
noncomputable def Bl (t:e4) (d:aj) (f:au):Option au:=match t with
 |.a x=>oP x (.l d) f
 |.b X=>match d with
  |.j D=>qL X D f
  |_=>ah
noncomputable def nq (k x:Nat) (v:im) (Y:ar):Option ar:=if zw k Y then(match ie k x Y with
 |some _=>if jn k x then ah else gg k x v Y
 |none=>gg k x v Y) else ah
noncomputable def FC:aj→Bool
 |.none=>af
 |.bool _=>af
 |.int _=>af
 |_=>ai
noncomputable def pa:Nat:=100000
noncomputable def fW:List Str:=["k","tab","text","fresh","n","b","elem","ro","elems","marks","found","place","last","out","given","mark","first","held","rows","t","row","kind","got","parts","top","kept","part","rel","number","s","rule","mode","made","spot","host","told","key","answer","clean","a","lax","ss","ts","owners","prop","hidden","seen","waiting","at","more","name","digits","letter","late","shape","hole","kinds","tags","props","units","wider","unit","chosen","lists","choices","length","rest","tail","mine","theirs","pair","pairs","t_ro","whole","d","x","atoms","atom","go","wide","heads","how","opts","tails","start","size","groups","group","one","total","cut","mask","bits","small","big","ways","script","nums","way","direct","self","code","mapping","pids","check","ext","erased"].map gp
noncomputable def iE:List Str:=["rows","rules","pop","append","extend","get","reverse","put","index","holds","telling","host","twin","mode","notes","trail","assumed","force","tab","looks","deep","known","mark","note","same","ask","back","bound","list_prop","shape","tells","codes","number","text","__init__","clean","decls","bounds","defaults","names","origins","renamed","shaping","putting","row","loose","sig","blank","road","missing","at","infer_sig","most_rounds","most_deep","lib","put_deferred","put_cond","lay_row","fits","lies","infers","tpl_fits","shape_fits","put_in","own_sig","forget","list_index","elem_met","error_class"].map gp
noncomputable def lG:List (br×aj):=[("U_ANY",(ae 1)),("U_PROP",(ae 3)),("U_ENUM",(ae 10)),("U_VAR",(ae 15)),("Y_KEY",(ae 1)),("Y_BOOL",(ae 2)),("Y_STR",(ae 3)),("Y_NUM",(ae 4)),("Y_ENUM",(ae 5)),("Y_UNION",(ae 6)),("Y_INTER",(ae 7)),("Y_OBJ",(ae 8)),("Y_REF",(ae 9)),("Y_PARAM",(ae 10)),("Y_ARRAY",(ae 11)),("Y_TUPLE",(ae 12)),("Y_SIG",(ae 13)),("Y_KEYOF",(ae 14)),("Y_INDEX",(ae 15)),("Y_COND",(ae 16)),("Y_MAPPED",(ae 17)),("Y_TPL",(ae 18)),("Y_ALIAS",(ae 19)),("ANY",(ae 0)),("UNKNOWN",(ae 1)),("NEVER",(ae 2)),("VOID",(ae 3)),("UNDEF",(ae 4)),("NULLT",(ae 5)),("STRING",(ae 6)),("NUMBER",(ae 7)),("FALSE_T",(ae 8)),("TRUE_T",(ae 9)),("OBJECTT",(ae 10)),("EMPTY",(ae 11)),("ERR",(ae 13)),("FRESH_F",(ae 14)),("FRESH_T",(ae 15)),("P_OPT",(ae 1)),("P_PRIVATE",(ae 8)),("P_PROTECTED",(ae 16)),("E_NEED",(ae 0)),("E_OPT",(ae 1)),("E_REST",(ae 2)),("E_SPREAD",(ae 3)),("MAX_UNION",(ae 400)),("FIRST_ROWS",(.j [(.j [(ae 1),(bP ("any"))]),(.j [(ae 1),(bP ("unknown"))]),(.j [(ae 1),(bP ("never"))]),(.j [(ae 1),(bP ("void"))]),(.j [(ae 1),(bP ("undefined"))]),(.j [(ae 1),(bP ("null"))]),(.j [(ae 1),(bP ("string"))]),(.j [(ae 1),(bP ("number"))]),(.j [(ae 2),(ae 0),(ae 0)]),(.j [(ae 2),(ae 1),(ae 0)]),(.j [(ae 1),(bP ("object"))]),(.j [(ae 8),(.j []),(.j []),(.j []),(.j []),(.j []),(ae 0)]),(.j [(ae 6),(.j [(ae 8),(ae 9)])]),(.j [(ae 1),(bP ("error"))]),(.j [(ae 2),(ae 0),(ae 1)]),(.j [(ae 2),(ae 1),(ae 1)])])),("LITERAL_ROWS",(.j [(ae 2),(ae 3),(ae 4),(ae 5)])),("MARKED_ROWS",(.j [(ae 2),(ae 3),(ae 4),(ae 5),(ae 8)])),("R_ASSIGN",(ae 1)),("R_COMPARE",(ae 2)),("R_IDENT",(ae 3)),("R_SUBTYPE",(ae 4)),("RULE_MEET",(ae 1)),("RULE_DEFERRED",(ae 2)),("RULE_SIG",(ae 3)),("RULE_LIST",(ae 4)),("RULE_OBJECT",(ae 5)),("RULE_CHOICE",(ae 6)),("RULE_PLACES",(ae 12)),("RULE_TELLS",(ae 13)),("VALUE_ROWS",(.j [(ae 1),(ae 2),(ae 3),(ae 4),(ae 5)])),("LIST_ROWS_relbase",(.j [(ae 11),(ae 12)])),("SHAPED_ROWS",(.j [(ae 8),(ae 9)])),("DEFERRED_ROWS",(.j [(ae 10),(ae 14),(ae 15),(ae 16),(ae 17),(ae 18),(ae 19)])),("OPEN_ROWS",(.j [(ae 6),(ae 7),(ae 10),(ae 14),(ae 15),(ae 16),(ae 17),(ae 18),(ae 19)])),("MAX_OPEN",(ae 60)),("MOST_LOOKS",(ae 20000)),("LIST_ROWS_shapes",(.j [(ae 11),(ae 12)])),("MOST_ROUNDS",(ae 200)),("MOST_SHAPES",(ae 40)),("MAX_COMBOS",(ae 25)),("_law_points",(.j [(ae 1),(ae 2),(ae 8),(ae 32),(ae 64),(ae 128),(ae 7),(ae 24)]))].map fun p=>(gp p.1,p.2)
noncomputable def j0:List (br×Nat):=[("len",10),("range",11),("sorted",12),("max",13),("all",14),("str",15),("int",16),("tuple",17),("dict",18),("_wall",100),("str_type",157),("num_type",158),("bool_type",159),("array_type",160),("last_mark",161),("needed_to_last",162),("one_rest",163),("tuple_type",164),("parts_of",165),("whole_of_row",166),("regular_twin",167),("join_bools",168),("stays_beside",169),("top_of",170),("union",171),("add_undef",172),("is_literal",173),("is_unit",174),("is_fresh",175),("regular_one",176),("by_rule",199),("silent_with",200),("twin_of",201),("cut_back",202),("settled",203),("ask_kinds",204),("relbase_kept",205),("close_trail",206),("tells",207),("taken_wider",208),("simple_related",209),("tops_related",210),("unknown_told",211),("is_numeric_enum",212),("values_related",213),("number_to_enum",214),("structured",215),("rule_for",216),("from_union",217),("some_part",218),("lay_again",219),("to_union",220),("same_kind",221),("each_in",222),("all_units",224),("hidden_apart",227),("final_parts",228),("elem_read",233),("told_places",234),("find_prop",235),("is_digits",236),("place_of",237),("is_number_name",238),("prop_row",239),("read_type",240),("late_place",241),("list_read",242),("index_read",243),("part_type",244),("prop_type",245),("tuple_at",246),("is_tag",248),("tells_apart",249),("relate_told_apart",253),("all_choices",254),("split_places",255),("by_places",256),("install_rel_tells",258),("install_rel_places",259),("least_length",261),("open_place",262),("elem_for",263),("lengths_fit",264),("place_pairs",265),("is_unsettled",266),("by_marks",267),("pairs_hold",268),("spreads_laid",269),("tuples_hold",270),("into_array",271),("tuple_related",272),("install_rel_lists",274),("_law_take",277),("_law_plain",278),("_law_kind",279),("_law_source",280),("_law_flat",281),("_law_with",282),("_law_cover",283),("_law_turn",284),("_law_mask",285),("_law_bits",286),("_law_slots",287),("_law_lies",288),("_law_reads",289),("_law_ways",290),("_law_takers",291),("_law_union",292),("_law_list",293),("_law_parts",294),("law",295),("KeepError",106),("TooDeep",107),("HostFault",108),("Notes",109),("TypeTable",156),("RelRule",197),("Rel",198),("Thin",232),("TellsRule",252),("PlacesRule",257),("RellistListRule",273)].map fun p=>(gp p.1,p.2)
inductive eo where
 |v
 |d (e:bt)
 |h (e:bt)
 |set (x:Nat) (e:bt)
 |j (x:Nat) (E:List bt)
 |p (x:Nat)
 |g (x:Nat) (C:bt) (t:e4) (I:bt) (s:List bt)
 |w (x:Nat) (a:bt)
 |names (X:List Nat) (e:bt)
 |attr (a:bt) (x:Nat) (e:bt)
 |k (a:bt) (x:Nat) (E:List bt)
 |n (a:bt) (x:Nat)
 |sub (a i e:bt)
 |B (x:Nat) (z:Operator) (e:bt)
 |q (a:bt) (x:Nat) (z:Operator) (e:bt)
 |f (t:e4) (I:bt) (A:List eo)
 |m (c:bt) (A:List eo)
 |l (c:bt) (a b:List eo)
 |del (a i:bt)
 |u (a L:bt)
 |y
 |o
 |cont
open eo renaming attr→eV,cont→rF,del→l0,names→kn,set→bg,sub→eW
mutual
noncomputable def eo.simple:eo→Bool
 |.sub a i e=>a.simple&&i.simple&&e.simple
 |.set _ e=>e.simple
 |.del a i=>a.simple&&i.simple
 |.l c a b=>c.simple&&ku a&&ku b
 |.y=>af
 |_=>ai
noncomputable def ku:List eo→Bool
 |[]=>af
 |s::r=>s.simple&&ku r
end
inductive vR where
 |get (q:fN) (d:aj)
 |cut (l h:Option Int) (q:fN)
 |w (o:Operator) (a b:aj)
 |B (o:Operator) (a b:aj)
 |len (q:fN)
 |c (a b:aj)
 |str (d:aj)
 |int (d:aj)
 |key (k:aj) (s:List (aj×aj)) (d:aj)
 |sorted (s:List (aj×aj))
open vR renaming key→ov,len→pS,sorted→uG,str→rI
noncomputable def fG:e4→List Nat
 |.a x=>[x]
 |.b X=>X
noncomputable def vR.e:vR→Option aj
 |.get q d=>ez q d
 |.cut l h q=>f9 l h q
 |.w o a b=>eP o a b
 |.B o a b=>cond (j9 a) (match o with
  |.Add=>eP b9 a b
  |.Sub=>eP fU a b
  |.BitOr=>eP iw a b
  |_=>ah) ah
 |.len q=>if rM q≤16777216 then ac (ae (rM q)) else ah
 |.c a b=>iL (fun i j=>ac (ae (if i<j then j else i))) a b
 |.str d=>lr (fun i=>if 0≤i∧i<1000 then ac (bP (gp (toString i))) else ah) d
 |.int d=>match d with
  |.str s=>if s.cps.size≤640 then(intText? s).map ae else ah
  |_=>ah
 |.key k f d=>if cT k f then ac ((f3 k f).getD d) else ah
 |.sorted f=>if f.length<64 then(tL (f.map (·.1))).map fun I=>.c ((nB I).map ae) else ah
inductive wK where
 |has (d:aj) (q:fN)
 |k (o:CmpOp) (a b:aj)
 |s (o:CmpOp) (a b:aj)
 |tr (d:aj)
 |all (ds:List aj)
 |le (n m:Nat)
 |c (f:List (aj×aj))
open wK renaming tr→hH
noncomputable def wK.e:wK→Option Bool
 |.has d q=>cZ d q
 |.k o a b=>vW o a b
 |.s o a b=>AQ o a b
 |.tr d=>z9 d
 |.all D=>na D
 |.le n m=>ac (aM (n≤m))
 |.c f=>ac (f.all fun p=>j9 p.1)
inductive wv where
 |u (m:Nat) (c:b0) (ds:List aj)
 |set (c:b0) (i v:aj)
 |del (k:aj) (s:List (aj×aj))
 |cut (n:aj) (ds:List aj)
open wv renaming cut→rH,del→ou,set→ow
noncomputable def wv.e:wv→Option (aj×b0)
 |.u m c d=>fL m c d
 |.set c i v=>(gT c i v).map fun c=>(a4,c)
 |.del k s=>if ja k&&cT k s&&dA k s then ac (a4,.e (hR k s)) else ah
 |.cut n d=>match n with
  |.int n=>if 0≤n then ac (a4,.c (d.take n.toNat)) else ah
  |_=>ah
structure S3 where
 body:List eo
 c:Option bt
 t:e4
 b:Option (Nat×Nat)
 d:List aj
 L:au
 st:ar
structure Ta where
 a:bt
 b:List bt
 t:e4
 d:List aj
 L:au
 st:ar
inductive kS where
 |a (k:Nat) (p:S3)
 |comp (k:Nat) (p:Ta)
open kS renaming comp→rG
abbrev d1:=cR×au×ar
inductive aT where
 |a
 |h (f:d1)
 |d (o:vR) (k:aj→aT)
 |b (o:wK) (k:Bool→aT)
 |c (o:wv) (k:aj→b0→aT)
 |call (g:Nat) (A:List fJ) (Y:ar) (k:aj→List b0→ar→aT)
 |sub (s:kS) (k:cR→au→ar→aT)
open aT renaming call→pT,d→e_,sub→l1
noncomputable def aT.bind (K:d1→aT):aT→aT
 |.a=>.a
 |.h f=>K f
 |.d o k=>e_ o fun v=>(k v).bind K
 |.b o k=>.b o fun v=>(k v).bind K
 |.c o k=>.c o fun D v=>(k D v).bind K
 |.call g A Y k=>pT g A Y fun D C Y=>(k D C Y).bind K
 |.sub s k=>l1 s fun f L Y=>(k f L Y).bind K
noncomputable def dV (f:cR) (L:au) (Y:ar):aT:=.h (f,L,Y)
structure gE where
 e:bt→au→ar→(aj→au→ar→aT)→aT
 t:bt→au→ar→(Bool→au→ar→aT)→aT
 ss:List eo→au→ar→(cR→au→ar→aT)→aT
section
variable(T:ha) (lv:Nat) (r:gE)
noncomputable def qc (b:bt) (x:Nat) (L:au) (Y:ar) (k:Nat×im→au→ar→aT):aT:=r.e b L Y fun d L Y=>match d with
 |.inst j=>match ie j x Y with
  |some a=>k (j,a) L Y
  |none=>.a
 |_=>.a
noncomputable def f0 (a:bt) (L:au) (Y:ar) (k:ny→au→ar→aT):aT:=match a with
 |.f x=>match bG x L with
  |some (.l d)=>k (dI d) L Y
  |some _=>k (g' x) L Y
  |none=>.a
 |.attr b x=>qc r b x L Y fun t L Y=>match t.2 with
  |.l d=>k (dI d) L Y
  |.box _=>k (dI (da t.1 x)) L Y
 |a=>r.e a L Y fun d L Y=>k (dI d) L Y
noncomputable def i9 (c:ny) (L:au) (Y:ar) (k:fN→aT):aT:=match c.now L Y with
 |some q=>k q
 |none=>.a
noncomputable def gW:List bt→au→ar→(List aj→au→ar→aT)→aT
 |[],L,Y,k=>k [] L Y
 |e::E,L,Y,k=>r.e e L Y fun d L Y=>gW E L Y fun D L Y=>k (d::D) L Y
noncomputable def p6:Option bt→au→ar→(Option Int→au→ar→aT)→aT
 |none,L,Y,k=>k ah L Y
 |some e,L,Y,k=>r.e e L Y fun d L Y=>match d with
  |.int i=>k (ac i) L Y
  |_=>.a
noncomputable def wd (o:m_) (a b:bt) (L:au) (Y:ar) (k:Bool→au→ar→aT):aT:=
 r.e a L Y fun d L Y=>match o with
 |.In=>f0 r b L Y fun c L Y=>i9 c L Y fun q=>aT.b (.has d q) fun v=>k v L Y
 |.NotIn=>f0 r b L Y fun c L Y=>i9 c L Y fun q=>aT.b (.has d q) fun v=>k (!v) L Y
 |o=>r.e b L Y fun D L Y=>aT.b (.k o d D) fun v=>k v L Y
noncomputable def w8 (h:Bool):List bt→au→ar→(aj→au→ar→aT)→aT
 |[],_,_,_=>.a
 |[e],L,Y,k=>r.e e L Y k
 |e::E,L,Y,k=>r.e e L Y fun d L Y=>aT.b (hH d) fun b=>if b==h then w8 h E L Y k else k d L Y
noncomputable def vv (h:Bool):List bt→au→ar→(Bool→au→ar→aT)→aT
 |[],L,Y,k=>k h L Y
 |e::E,L,Y,k=>r.t e L Y fun b L Y=>if b==h then vv h E L Y k else k b L Y
noncomputable def nh:List Bool→List bt→au→ar→(List (aj⊕Nat)→au→ar→aT)→aT
 |_,[],L,Y,k=>k [] L Y
 |m,e::E,L,Y,k=>match sA m e L with
  |some x=>nh m.tail E L Y fun a L Y=>k (jm x::a) L Y
  |none=>r.e e L Y fun d L Y=>nh m.tail E L Y fun a L Y=>k (fS d::a) L Y
noncomputable def mV (g:Nat) (a:List (aj⊕Nat)) (L:au) (Y:ar) (k:aj→au→ar→aT):aT:=
 if vj (iK a) then match ll L a with
  |some A=>pT g A Y fun d c Y=>match qd (iK a) c L with
   |some L=>k d L Y
   |none=>.a
  |none=>.a
 else .a
noncomputable def u9 (g:Nat) (a:List bt) (L:au) (Y:ar) (k:aj→au→ar→aT):aT:=match kD g with
 |some none=>match a with
  |[]=>if j6 g then k (an Y.length) L (Y++[⟨g,[]⟩]) else .a
  |_=>.a
 |some (some i)=>if j6 g then gW r a L Y fun D L Y=>mV i (fS (an Y.length)::D.map fS) L (Y++[⟨g,[]⟩]) fun d L s=>match d with
   |.none=>k (an Y.length) L s
   |_=>.a
  else .a
 |none=>nh r (T.modes g) a L Y fun A L Y=>mV g A L Y k
noncomputable def xI (g:Nat) (A:List bt) (L:au) (Y:ar) (k:aj→au→ar→aT):aT:=match A with
 |[a]=>cond (d3 g 10) (f0 r a L Y fun c L Y=>i9 c L Y fun q=>e_ (pS q) fun d=>k d L Y)
  (cond (d3 g 12) (f0 r a L Y fun c L Y=>i9 c L Y fun q=>match q with
   |.e s=>e_ (uG s) fun d=>k d L Y
   |_=>.a)
  (cond (d3 g 14) (r.e a L Y fun d L Y=>match d with
   |.c D=>aT.b (.all D) fun b=>k (aA b) L Y
   |_=>.a)
  (cond (d3 g 15) (r.e a L Y fun d L Y=>e_ (rI d) fun d=>k d L Y)
  (cond (d3 g 16) (r.e a L Y fun d L Y=>e_ (.int d) fun d=>k d L Y)
  (cond (d3 g 17) (f0 r a L Y fun c L Y=>i9 c L Y fun q=>match q with
   |.c D=>k (.j D) L Y
   |_=>.a) .a)))))
 |[a,b]=>cond (d3 g 13) (r.e a L Y fun d L Y=>r.e b L Y fun e L Y=>e_ (.c d e) fun d=>k d L Y) .a
 |_=>.a
noncomputable def wS (g:Nat) (a:List bt) (L:au) (Y:ar) (k:aj→au→ar→aT):aT:=cond (fx 100 g) (u9 T r g a L Y k) (xI r g a L Y k)
noncomputable def qE (m:Nat):Bool:=d3 m 2||(d3 m 3||(d3 m 4||d3 m 6))
noncomputable def vZ (x m:Nat) (a:List bt) (L:au) (Y:ar) (k:aj→au→ar→aT):aT:=match gR x L with
 |some (.c _)=>cond (qE m) (gW r a L Y fun D L Y=>match gR x L with
  |some c=>aT.c (.u m c D) fun d c=>match jr x c L with
   |some L=>k d L Y
   |none=>.a
  |none=>.a) .a
 |_=>.a
noncomputable def va (j x m:Nat) (a:List bt) (L:au) (Y:ar) (k:aj→au→ar→aT):aT:=match dW j x Y with
 |some (.c _)=>cond (qE m) (gW r a L Y fun D L Y=>match dW j x Y with
  |some c=>aT.c (.u m c D) fun d c=>match gg j x (b1 c) Y with
   |some Y=>k d L Y
   |none=>.a
  |none=>.a) .a
 |some (.e _)=>if m==5 then gW r a L Y fun D L Y=>match dW j x Y,D with
   |some (.e s),[y]=>e_ (ov y s a4) fun d=>k d L Y
   |some (.e s),[y,e]=>e_ (ov y s e) fun d=>k d L Y
   |_,_=>.a
  else .a
 |none=>.a
noncomputable def vP (j m:Nat) (a:List bt) (L:au) (Y:ar) (k:aj→au→ar→aT):aT:=match Y[j]?with
 |some i=>match(if(i.attrs.lookup m).isNone then oU i.cls m else ah) with
  |some g=>nh r (T.modes g).tail a L Y fun A L Y=>mV g (fS (an j)::A) L Y k
  |none=>.a
 |none=>.a
noncomputable def z1 (a:bt) (m:Nat) (A:List bt) (L:au) (Y:ar) (k:aj→au→ar→aT):aT:=
 f0 r a L Y fun c L Y=>match c with
 |.slot x=>vZ r x m A L Y k
 |.sq (.inst j)=>vP T r j m A L Y k
 |.sq (.box j x)=>if lL A then va r j x m A L Y k else .a
 |.sq (.e s)=>if m==5 then gW r A L Y fun D L Y=>match D with
   |[y,d]=>e_ (ov y s d) fun d=>k d L Y
   |_=>.a
  else .a
 |_=>.a
noncomputable def qy (i:bt):Option (List bt):=match i with
 |.call g e=>cond (d3 g 11) (ac e) ah
 |_=>ah
noncomputable def qC (I:bt) (L:au) (Y:ar) (k:List aj→Option (Nat×Nat)→au→ar→aT):aT:=match qy I with
 |some [a]=>r.e a L Y fun d L Y=>match d with
  |.int n=>aT.b (.le n.natAbs 100000) fun b=>if b then k (f4 0 n) ah L Y else .a
  |_=>.a
 |some [a,b]=>r.e a L Y fun d L Y=>r.e b L Y fun e L Y=>match d,e with
  |.int i,.int n=>aT.b (.le (i.natAbs+n.natAbs) 100000) fun b=>if b then k (f4 i n) ah L Y else .a
  |_,_=>.a
 |some _=>.a
 |none=>f0 r I L Y fun c L Y=>match c with
  |.slot x=>match lu x L with
   |some (d,L)=>match d.sq Y with
    |some q=>k (se q) ah L Y
    |none=>.a
   |none=>.a
  |.sq (.box j x)=>match dW j x Y with
   |some (.c D)=>k D (ac (j,x)) L Y
   |_=>.a
  |.sq d=>match d.sq Y with
   |some q=>k (se q) ah L Y
   |none=>.a
noncomputable def y1:List bt→au→ar→(Bool→au→ar→aT)→aT
 |[],L,Y,k=>k af L Y
 |e::E,L,Y,k=>r.t e L Y fun b L Y=>if b then y1 E L Y k else k ai L Y
noncomputable def qQ (x:List Nat) (L:au) (k:au→aT):aT:=if L.all (fun p=> !x.contains p.1||(match p.2 with|.l _=>af|_=>ai)) then k (L.filter fun p=> !x.contains p.1) else .a
noncomputable def p0 (t:e4) (d:aj) (L:au) (k:au→aT):aT:=match Bl t d L with
 |some L=>k L
 |none=>.a
noncomputable def r' (e:bt) (t:e4) (i:List bt) (d:aj) (L:au) (Y:ar):aT:=qQ (fG t) L fun L=>p0 t d L fun L=>y1 r i L Y fun b L Y=>
 if b then r.e e L Y fun v L Y=>qQ (fG t) L fun L=>dV (.h (.c [v])) L Y else qQ (fG t) L fun L=>dV (.h (.c [])) L Y
noncomputable def qG (e:bt) (t:e4) (i:List bt):List aj→au→ar→(List aj→au→ar→aT)→aT
 |[],L,Y,k=>k [] L Y
 |d::D,L,Y,k=>(r' r e t i d L Y).bind fun f=>match f.1 with
  |.h (.c v)=>qG e t i D f.2.1 f.2.2 fun w L Y=>k (v++w) L Y
  |_=>.a
noncomputable def wO (e:bt) (t:e4) (i:bt) (I:List bt) (L:au) (Y:ar) (k:List aj→au→ar→aT):aT:=
 qC r i L Y fun d b L Y=>match b with
 |none=>aT.b (.le d.length b4) fun v=>if v then l1 (rG lv ⟨e,I,t,d,L,Y⟩) fun f L Y=>match f with
   |.h (.c V)=>k V L Y
   |_=>.a
  else .a
 |some _=>.a
end
section
variable(T:ha) (lv:Nat) (r:gE)
noncomputable def p3:bt→au→ar→(aj→au→ar→aT)→aT
 |.v,_,_,_=>.a
 |.h d,L,Y,k=>k d L Y
 |.f x,L,Y,k=>match bG x L with
  |some (.l d)=>k d L Y
  |some (.own c)=>k c.frz (f8 x (.l c.frz) L) Y
  |_=>.a
 |.w o a b,L,Y,k=>r.e a L Y fun j L Y=>r.e b L Y fun f L Y=>e_ (.w o j f) fun d=>k d L Y
 |.q a,L,Y,k=>r.e a L Y fun d L Y=>aT.b (hH d) fun b=>k (aA !b) L Y
 |.k o a b,L,Y,k=>wd r o a b L Y fun b L Y=>k (aA b) L Y
 |.s p q a b c,L,Y,k=>if(o' q 0 0).isSome then r.e a L Y fun j L Y=>r.e b L Y fun f L Y=>aT.b (.s p j f) fun v=>
   if v then r.e c L Y fun w L Y=>aT.b (.s q f w) fun v=>k (aA v) L Y else k (aA ai) L Y
  else .a
 |.and e,L,Y,k=>w8 r af e L Y k
 |.or e,L,Y,k=>w8 r ai e L Y k
 |.l c a b,L,Y,k=>r.t c L Y fun v L Y=>if v then r.e a L Y k else r.e b L Y k
 |.j e,L,Y,k=>if e.length≤1000 then gW r e L Y fun D L Y=>k (.j D) L Y else .a
 |.list e,L,Y,k=>if e.length≤1000 then gW r e L Y fun D L Y=>k (.c D) L Y else .a
 |.y,L,Y,k=>k (.e []) L Y
 |.sub a i,L,Y,k=>f0 r a L Y fun c L Y=>if !c.box||i.simple then r.e i L Y fun d L Y=>i9 c L Y fun q=>e_ (.get q d) fun v=>k v L Y else .a
 |.n a n u,L,Y,k=>f0 r a L Y fun c L Y=>if !c.box||(nJ n&&nJ u) then p6 r n L Y fun l L Y=>p6 r u L Y fun h L Y=>
   i9 c L Y fun q=>e_ (.cut l h q) fun v=>k v L Y else .a
 |.attr a x,L,Y,k=>qc r a x L Y fun t L Y=>match t.2 with
  |.l d=>k d L Y
  |.box _=>if jn t.1 x then k (da t.1 x) L Y else .a
 |.call g A,L,Y,k=>wS T r g A L Y k
 |.u a m A,L,Y,k=>z1 T r a m A L Y k
 |.comp E t I s,L,Y,k=>wO lv r E t I s L Y fun D L Y=>k (.c D) L Y
noncomputable def Ak:bt→au→ar→(Bool→au→ar→aT)→aT
 |.q a,L,Y,k=>r.t a L Y fun b L Y=>k (!b) L Y
 |.and e,L,Y,k=>vv r af e L Y k
 |.or e,L,Y,k=>vv r ai e L Y k
 |.k o a b,L,Y,k=>wd r o a b L Y k
 |.l c a b,L,Y,k=>r.t c L Y fun v L Y=>if v then r.t a L Y k else r.t b L Y k
 |.f x,L,Y,k=>match bG x L with
  |some (.l d)=>aT.b (hH d) fun b=>k b L Y
  |some (.own c)=>aT.b (hH c.frz) fun b=>k b L Y
  |some (.a c)=>aT.b (hH c.frz) fun b=>k b L Y
  |none=>.a
 |a,L,Y,k=>r.e a L Y fun d L Y=>aT.b (hH d) fun b=>k b L Y
noncomputable def jD (x:Nat) (s:ig) (L:au) (k:au→aT):aT:=if j5 x L then .a else k (f8 x s L)
noncomputable def mm (j x:Nat) (v:im) (Y:ar) (k:ar→aT):aT:=match nq j x v Y with
 |some Y=>k Y
 |none=>.a
noncomputable def o6 (d:aj) (k:Nat→aT):aT:=match d with
 |.inst j=>k j
 |_=>.a
noncomputable def oT (ns:List Nat) (L:au):Option au:=if L.all (fun p=>ns.contains p.1||(match p.2 with|.a _=>ai|_=>af)) then ac (L.filter fun p=>ns.contains p.1) else ah
noncomputable def j3 (ns:List Nat) (L:au) (k:au→aT):aT:=match oT ns L with
 |some L=>k L
 |none=>.a
noncomputable def rN (c:ar→Bool) (ns:List Nat) (g:au→ar→aT) (k:cR→au→ar→aT) (f:d1):aT:=match f.1 with
 |.h d=>j3 ns f.2.1 fun L=>k (.h d) L f.2.2
 |.o=>j3 ns f.2.1 fun L=>k a' L f.2.2
 |_=>if c f.2.2 then j3 ns f.2.1 fun L=>g L f.2.2 else .a
noncomputable def uZ (b:List eo) (t:e4) (d:aj) (L:au) (Y:ar):aT:=p0 t d L fun L=>r.ss b L Y dV
noncomputable def sR (c:bt) (B:List eo) (L:au) (Y:ar):aT:=r.t c L Y fun b L Y=>if b then r.ss B L Y dV else dV .o L Y
noncomputable def kU (b:List eo) (t:e4) (c:ar→Bool) (ns:List Nat):List aj→au→ar→(cR→au→ar→aT)→aT
 |[],L,Y,k=>k a' L Y
 |d::D,L,Y,k=>(uZ r b t d L Y).bind (rN c ns (fun L Y=>kU b t c ns D L Y k) k)
noncomputable def mn (c:bt) (b:List eo) (ns:List Nat) (k:cR→au→ar→aT):Nat→au→ar→aT
 |0,_,_=>.a
 |n+1,L,Y=>(sR r c b L Y).bind (rN (fun _=>af) ns (mn c b ns k n) k)
noncomputable def p5 (x:Nat) (c:b0) (L:au) (Y:ar) (k:cR→au→ar→aT):aT:=match jr x c L with
 |some L=>k a' L Y
 |none=>.a
noncomputable def nD (q x:Nat) (c:b0) (L:au) (Y:ar) (k:cR→au→ar→aT):aT:=match gg q x (b1 c) Y with
 |some Y=>k a' L Y
 |none=>.a
noncomputable def xc (v j:aj) (c:ny) (L:au) (Y:ar) (k:cR→au→ar→aT):aT:=match c with
 |.slot x=>match gR x L with
  |some c=>aT.c (ow c j v) fun _ c=>p5 x c L Y k
  |none=>.a
 |.sq (.box q x)=>match dW q x Y with
  |some c=>aT.c (ow c j v) fun _ c=>nD q x c L Y k
  |none=>.a
 |_=>.a
noncomputable def GS (j:aj) (q x:Nat) (L:au) (Y:ar) (k:cR→au→ar→aT):aT:=match dW q x Y with
 |some (.e s)=>aT.c (ou j s) fun _ c=>nD q x c L Y k
 |_=>.a
noncomputable def F' (j:aj) (q x:Nat) (L:au) (Y:ar) (k:cR→au→ar→aT):aT:=match dW q x Y with
 |some (.c d)=>aT.c (rH j d) fun _ c=>nD q x c L Y k
 |_=>.a
noncomputable def CR:eo→au→ar→(cR→au→ar→aT)→aT
 |.v,_,_,_=>.a
 |.d e,L,Y,k=>r.e e L Y fun d L Y=>if FC d then k a' L Y else .a
 |.h e,L,Y,k=>r.e e L Y fun d L Y=>k (.h d) L Y
 |.set x e,L,Y,k=>r.e e L Y fun d L Y=>jD x (.l d) L fun L=>k a' L Y
 |.j x E,L,Y,k=>if E.length≤1000 then gW r E L Y fun D L Y=>jD x (bE (.c D)) L fun L=>k a' L Y else .a
 |.p x,L,Y,k=>jD x (bE (.e [])) L fun L=>k a' L Y
 |.g x f t I g,L,Y,k=>wO lv r f t I g L Y fun D L Y=>jD x (bE (.c D)) L fun L=>k a' L Y
 |.w x a,L,Y,k=>r.e a L Y fun d L Y=>match d with
  |.e s=>aT.b (.c s) fun b=>if b then jD x (bE (.e s)) L fun L=>k a' L Y else .a
  |_=>.a
 |.names X e,L,Y,k=>r.e e L Y fun d L Y=>p0 (.b X) d L fun L=>k a' L Y
 |.attr a x e,L,Y,k=>r.e e L Y fun v L Y=>r.e a L Y fun d L Y=>o6 d fun j=>mm j x (.l v) Y fun Y=>k a' L Y
 |.k a x E,L,Y,k=>if E.length≤1000 then gW r E L Y fun D L Y=>r.e a L Y fun d L Y=>o6 d fun j=>mm j x (b1 (.c D)) Y fun Y=>k a' L Y else .a
 |.n a x,L,Y,k=>r.e a L Y fun d L Y=>o6 d fun j=>mm j x (b1 (.e [])) Y fun Y=>k a' L Y
 |.sub a i e,L,Y,k=>r.e e L Y fun v L Y=>f0 r a L Y fun c L Y=>if !c.box||i.simple then r.e i L Y fun j L Y=>xc v j c L Y k else .a
 |.B x o e,L,Y,k=>match lu x L with
  |some (a,L)=>r.e e L Y fun b L Y=>e_ (.B o a b) fun d=>jD x (.l d) L fun L=>k a' L Y
  |none=>.a
 |.q a x o e,L,Y,k=>r.e a L Y fun d L Y=>o6 d fun j=>match ie j x Y with
  |some (.l v)=>r.e e L Y fun b L Y=>e_ (.B o v b) fun d=>mm j x (.l d) Y fun Y=>k a' L Y
  |_=>.a
 |.f t I B,L,Y,k=>qC r I L Y fun D b L Y=>if b.isNone||ku B then l1 (.a lv ⟨B,ah,t,b,D,L,Y⟩) k else .a
 |.m c B,L,Y,k=>l1 (.a lv ⟨B,ac c,.b [],ah,[],L,Y⟩) k
 |.l c a b,L,Y,k=>r.t c L Y fun v L Y=>if v then r.ss a L Y k else r.ss b L Y k
 |.del a i,L,Y,k=>f0 r a L Y fun c L Y=>match c with
  |.sq (.box q x)=>if i.simple then r.e i L Y fun j L Y=>GS j q x L Y k else .a
  |_=>.a
 |.u a l,L,Y,k=>f0 r a L Y fun c L Y=>match c with
  |.sq (.box q x)=>if l.simple then r.e l L Y fun j L Y=>F' j q x L Y k else .a
  |_=>.a
 |.y,L,Y,k=>k a' L Y
 |.o,L,Y,k=>k .o L Y
 |.cont,L,Y,k=>k iz L Y
noncomputable def Az:List eo→au→ar→(cR→au→ar→aT)→aT
 |[],L,Y,k=>k a' L Y
 |s::J,L,Y,k=>CR lv r s L Y fun f L Y=>match f with
  |.next=>Az J L Y k
  |f=>k f L Y
end
noncomputable def e6 (T:ha):Nat→gE
 |0=>⟨fun _ _ _ _=>.a,fun _ _ _ _=>.a,fun _ _ _ _=>.a⟩
 |n+1=>⟨p3 T n (e6 T n),Ak (e6 T n),Az n (e6 T n)⟩
inductive lA where
 |d (v:aj)
 |b (v:Bool)
 |c (d:aj) (c:b0)
 |call (d:aj) (cs:List b0) (Y:ar)
 |sub (f:cR) (L:au) (Y:ar)
inductive eQ where
 |d (o:vR)
 |b (o:wK)
 |c (o:wv)
 |call (g:Nat) (a:List fJ) (Y:ar)
 |sub (s:kS)
structure dS where
 call:Nat→List fJ→ar→aj→List b0→ar→Prop
 sub:kS→cR→au→ar→Prop
noncomputable def aQ (X:dS) (Z:d1→Prop):aT→Prop
 |.a=>False
 |.h f=>Z f
 |.d o k=>∃v,o.e=ac v∧aQ X Z (k v)
 |.b o k=>∃v,o.e=ac v∧aQ X Z (k v)
 |.c o k=>∃d v,o.e=ac (d,v)∧aQ X Z (k d v)
 |.call g a Y k=>∃d c S,X.call g a Y d c S∧aQ X Z (k d c S)
 |.sub s k=>∃f L Y,X.sub s f L Y∧aQ X Z (k f L Y)
theorem z3:aQ X Z (t.bind K)↔aQ X (fun f=>aQ X Z (K f)) t:=t.rec .rfl (fun f=>.rfl) (fun o k i=>k3 fun v=>uh fun _=>i v) (fun o k i=>k3 fun v=>uh fun _=>i v) (fun o k i=>k3 fun d=>k3 fun v=>uh fun _=>i d v) (fun g a Y k i=>k3 fun d=>k3 fun c=>k3 fun Y=>uh fun _=>i d c Y) fun s k i=>k3 fun f=>k3 fun L=>k3 fun Y=>uh fun _=>i f L Y
theorem qn (h:aQ X (fun f=>aQ X Z (K f)) t):aQ X Z (t.bind K):=z3.mpr h
theorem vB (h:aQ X Z (t.bind K)):aQ X (fun f=>aQ X Z (K f)) t:=z3.mp h
abbrev jy:=List (Nat×lA)
noncomputable def xz (o:eQ):Option (List eQ×aT)→Option (List eQ×aT)
 |some (s,f)=>ac (o::s,f)
 |none=>ah
noncomputable def lA.gD:lA→Option aj
 |.d v=>ac v
 |_=>ah
noncomputable def lA.gB:lA→Option Bool
 |.b v=>ac v
 |_=>ah
noncomputable def lA.gC:lA→Option (aj×b0)
 |.c x v=>ac (x,v)
 |_=>ah
noncomputable def lA.a:lA→Option (aj×List b0×ar)
 |.call x C Y=>ac (x,C,Y)
 |_=>ah
noncomputable def lA.e:lA→Option d1
 |.sub f L Y=>ac (f,L,Y)
 |_=>ah
noncomputable def jy.a:jy→jy
 |[]=>[]
 |(n,w)::s=>(n-1,w)::s
noncomputable def BH:jy→Option (lA×jy)
 |(0,w)::s=>ac (w,s)
 |_=>ah
noncomputable def nE (o:eQ) (g:lA→Option a) (x:Option a) (t:aT) (k:a→jy→Nat→Option (List eQ×aT)) (s:jy) (j:Nat):Option (List eQ×aT):=match BH s with
 |some p=>(g p.1).elim ah fun v=>xz o (k v p.2 j)
 |none=>EO (x.elim ah fun v=>k v s.a (j-1)) (ac ([],t)) (s.isEmpty&&d3 j 0)
noncomputable def u0 (t:aT) (S:jy) (j:Nat):Option (List eQ×aT):=aT.rec (fun _ _=>ah) (fun f S _=>EO ah (ac ([],.h f)) S.isEmpty)
 (fun o k i S j=>nE (.d o) lA.gD o.e (e_ o k) i S j) (fun o k i S j=>nE (.b o) lA.gB o.e (.b o k) i S j) (fun o k i S j=>nE (.c o) lA.gC o.e (.c o k) (fun v=>i v.1 v.2) S j)
 (fun g a Y k i S j=>nE (.call g a Y) lA.a ah (pT g a Y k) (fun v=>i v.1 v.2.1 v.2.2) S j) (fun s k i S j=>nE (.sub s) lA.e ah (l1 s k) (fun v=>i v.1 v.2.1 v.2.2) S j) t S j
noncomputable def CH (r:Option (List eQ×aT)):Option (List eQ×d1):=r.bind fun p=>match p.2 with
 |.h f=>ac (p.1,f)
 |_=>ah
noncomputable def nK (t:aT) (s:jy):Option (List eQ×d1):=CH (u0 t s 1000000)
noncomputable def eQ.ok (X:dS):eQ→lA→Prop
 |.d o,v=>o.e=v.gD∧v.gD.isSome
 |.b o,v=>o.e=v.gB∧v.gB.isSome
 |.c o,v=>o.e=v.gC∧v.gC.isSome
 |.call g a Y,v=>∃p,v.a=ac p∧X.call g a Y p.1 p.2.1 p.2.2
 |.sub s,v=>∃p,v.e=ac p∧X.sub s p.1 p.2.1 p.2.2
structure cK (X:dS) where
 aa:eQ
 l:lA
 ok:aa.ok X l
noncomputable def pf (X:dS):jy→List eQ→Prop
 |[],[]=>True
 |p::s,o::a=>o.ok X p.2∧pf X s a
 |_,_=>False
theorem pf.a {os:List eQ} (h:pf X s os):pf X s.a os:=by
 cases s with
 |nil=>exact h
 |cons p s=>cases os with
  |nil=>exact h
  |cons o os=>exact h
theorem Fi {os:List eQ} (h:xz o y=ac (os,f)):∃c,y=ac (c,f)∧os=o::c:=by
 induction y with
 |none=>exact iM h
 |some q=>injection h with h;injection h with a b;subst a b;exact⟨_,rfl,rfl⟩
theorem qr {o:eQ} {os:List eQ} {P:u→Prop} {G:Prop} (h:nE o g x t k s j=ac (os,t')) (d:pf X s os)
  (l:∀w v,g w=ac v→o.ok X w→P v) (m:∀v,x=ac v→P v) (r:t=t'→G) (q:∀v S j c,P v→k v S j=ac (c,t')→pf X S c→G):G:=by
 unfold nE at h;cases a:BH s with
 |none=>
  rw[a] at h;have h:(EO (x.elim ah fun v=>k v s.a (j-1)) (ac ([],t)) (s.isEmpty&&d3 j 0):Option (List eQ×aT))=ac (os,t'):=h;cases b:s.isEmpty&&d3 j 0 with
  |true=>rw[b] at h;injection h with h;injection h with _ h;exact r h
  |false=>
   rw[b] at h;induction x with
   |none=>exact iM h
   |some v=>exact q v _ _ _ (m v rfl) h d.a
 |some p=>
  rw[a] at h;have h:(g p.1).elim ah (fun v=>xz o (k v p.2 j))=ac (os,t'):=h;cases f:g p.1 with
  |none=>rw[f] at h;exact iM h
  |some v=>
   rw[f] at h;refine(Fi h).elim fun c i=> ?_;have e:=i.2;subst e;rcases s with _|⟨⟨_|n,w⟩,s⟩
   ·exact iM a
   ·injection a with a;subst a;exact q v _ _ _ (l _ v f d.1) i.1 d.2
   ·exact iM a
theorem yJ (z:aQ X Z t') (t:aT):∀{S:jy} {j:Nat} {os:List eQ},u0 t S j=ac (os,t')→pf X S os→aQ X Z t:=by
 induction t with
 |a=>exact fun l=>iM l
 |h f=>
  intro S j os l _;rcases S with _|⟨_,_⟩
  ·injection l with l;injection l with _ l;exact l▸z
  ·exact iM l
 |d o k i=>exact fun l g=>qr l g (P:=fun v=>o.e=ac v) (fun w v e p=>p.1.trans e) (fun _ l=>l) (fun e=>e▸z) fun v _ _ _ e l g=>⟨v,e,i v l g⟩
 |b o k i=>exact fun l g=>qr l g (P:=fun v=>o.e=ac v) (fun w v e p=>p.1.trans e) (fun _ l=>l) (fun e=>e▸z) fun v _ _ _ e l g=>⟨v,e,i v l g⟩
 |c o k i=>exact fun l g=>qr l g (P:=fun v=>o.e=ac v) (fun w v e p=>p.1.trans e) (fun _ l=>l) (fun e=>e▸z) fun v _ _ _ e l g=>⟨v.1,v.2,e,i v.1 v.2 l g⟩
 |call G A Y k i=>exact fun l g=>qr l g (P:=fun p=>X.call G A Y p.1 p.2.1 p.2.2) (fun w v e p=>p.elim fun p q=>bD (q.1.symm.trans e)▸q.2) (fun _ l=>iM l) (fun e=>e▸z) fun v _ _ _ e l g=>⟨v.1,v.2.1,v.2.2,e,i _ _ _ l g⟩
 |sub s k i=>exact fun l g=>qr l g (P:=fun p=>X.sub s p.1 p.2.1 p.2.2) (fun w v e p=>p.elim fun p q=>bD (q.1.symm.trans e)▸q.2) (fun _ l=>iM l) (fun e=>e▸z) fun v _ _ _ e l g=>⟨v.1,v.2.1,v.2.2,e,i _ _ _ l g⟩
theorem PP {os:List eQ} (h:CH r=ac (os,f)):r=ac (os,.h f):=by
 rcases r with _|⟨o,t⟩
 ·exact iM h
 ·induction t with
  |h F=>injection h with h;injection h with a b;exact a▸b▸rfl
  |_=>exact iM h
noncomputable def ln (k:Nat) (s:List (cK X)):jy:=yB (fun _=>[]) (fun f _ i k=>(k%16,f.l)::i (k/16)) s k
noncomputable def lb (s:List (cK X)):List eQ:=s.map (·.aa)
theorem zs (s:List (cK X)):∀{k},pf X (ln k s) (lb s):=by
 induction s with
 |nil=>exact trivial
 |cons p s i=>exact⟨p.ok,i⟩
theorem sD {Z:d1→Prop} (k:Nat) (s:List (cK X)) (h:nK t (ln k s)=ac (lb s,f)) (z:Z f):aQ X Z t:=yJ (t':=.h f) z t (PP h) (zs s)
theorem jR (j k:Nat) (s:List (cK X)) (h:u0 t (ln k s) j=ac (lb s,t')) (z:aQ X Z t'):aQ X Z t:=yJ z t h (zs s)
abbrev kw:=Nat→List fJ→ar→aj→List b0→ar→Prop
noncomputable def kS.b:kS→Nat
 |.a k _=>k
 |.comp k _=>k
noncomputable def qX (T:ha):kS→aT
 |.a k p=>match p.c with
  |none=>kU (e6 T k) p.body p.t (gy p.b p.d) (p.L.map (·.1)) p.d p.L p.st dV
  |some c=>mn (e6 T k) c p.body (p.L.map (·.1)) dV pa p.L p.st
 |.comp k p=>qG (e6 T k) p.a p.t p.b p.d p.L p.st fun v L Y=>dV (.h (.c v)) L Y
noncomputable def dy (T:ha) (Φ:kw):Nat→dS
 |0=>⟨Φ,fun _ _ _ _=>False⟩
 |m+1=>⟨Φ,fun s f L Y=>(dy T Φ m).sub s f L Y∨(s.b=m∧aQ (dy T Φ m) (·=(f,L,Y)) (qX T s))⟩
def ca (T:ha) (Φ:kw) (s:kS) (f:cR) (L:au) (Y:ar):Prop:=aQ (dy T Φ s.b) (·=(f,L,Y)) (qX T s)
theorem Kd {T:ha} {Φ:kw} {s:kS} {f:cR} {L:au} {Y:ar} (h:ca T Φ s f L Y) {m:Nat} (a:s.b<m):(dy T Φ m).sub s f L Y:=a.rec (aI ⟨rfl,h⟩) fun _ i=>av i
theorem A8 {T:ha} {Φ:kw} {m:Nat}:(dy T Φ m).call=Φ:=by induction m using ir<;>rfl
section
variable{X:dS}
noncomputable def cK.call {T:ha} {Φ:kw} {m g:Nat} {a:List fJ} {Y st':ar} {d:aj} {cs:List b0} (h:Φ g a Y d cs st'):cK (dy T Φ m):=⟨.call g a Y,.call d cs st',(d,cs,st'),rfl,A8 (m:=m)▸h⟩
noncomputable def cK.sub {T:ha} {Φ:kw} {m:Nat} {s:kS} {f:cR} {L:au} {Y:ar} (h:ca T Φ s f L Y) (a:fx (s.b+1) m=true:=by rfl):cK (dy T Φ m):=⟨.sub s,.sub f L Y,(f,L,Y),rfl,Kd h (lM a)⟩
noncomputable def cK.F {o:vR} {v:aj} (h:o.e=ac v):cK X:=⟨.d o,.d v,h,rfl⟩
noncomputable def cK.z {o:wK} {v:Bool} (h:o.e=ac v):cK X:=⟨.b o,.b v,h,rfl⟩
noncomputable def cK.I {o:wv} {d:aj} {v:b0} (h:o.e=ac (d,v)):cK X:=⟨.c o,.c d v,h,rfl⟩
noncomputable def cK.get {q:fN} {d v:aj} (h:ez q d=ac v):cK X:=.F (o:=.get q d) h
noncomputable def cK.cut {a b:Option Int} {q:fN} {v:aj} (h:f9 a b q=ac v):cK X:=.F (o:=.cut a b q) h
noncomputable def cK.w {c:m7} {a b v:aj} (h:eP c a b=ac v):cK X:=.F (o:=.w c a b) h
noncomputable def cK.has {q:fN} {d:aj} {v:Bool} (h:cZ d q=ac v):cK X:=.z (o:=.has d q) h
noncomputable def cK.B {o:m7} {a b v:aj} (h:(vR.B o a b).e=ac v):cK X:=.F h
noncomputable def cK.u {m:Nat} {c a:b0} {ds:List aj} {d:aj} (h:fL m c ds=ac (d,a)):cK X:=.I (o:=.u m c ds) h
noncomputable def cK.le {n m:Nat} (h:n≤m):cK X:=.z (o:=.le n m) (v:=af) (by show ac (aM (n≤m))=_;rw[cu h])
noncomputable def cK.eq {i j:Int} (h:i=j):cK X:=.z (o:=.k a6 (ae i) (ae j)) (v:=af) (by show ac (i==j)=_;rw[h];simp)
noncomputable def cK.C {i j:Int} (h:¬i=j):cK X:=.z (o:=.k a6 (ae i) (ae j)) (v:=ai) (by show ac (i==j)=_;rw[c5.mpr h])
end
structure i5 where
 params:List Nat
 dflts:List aj
 body:List eo
noncomputable def qS:au→List Nat→List fJ→Option (List b0)
 |L,p::H,.l _::a=>qS L H a
 |L,p::H,.a _::a=>match bG p L with
  |some (.a c)=>(qS L H a).map (c::·)
  |_=>ah
 |_,_,_=>ac []
noncomputable def j8:List Nat→List fJ→List aj→Option au
 |H,[],df=>if df.length<H.length then ah else ac (H.zip ((df.drop (df.length-H.length)).map ig.l))
 |p::H,.l d::a,df=>(j8 H a df).map ((p,.l d)::·)
 |p::H,.a c::a,df=>(j8 H a df).map ((p,.a c)::·)
 |[],_::_,_=>ah
def sI (q:i5) (a:List fJ) (d:aj) (cs:List b0) (st':ar) (f:d1):Prop:=(match f.1 with|.h v=>v=d|.next=>d=a4|_=>False)∧qS f.2.1 q.params a=ac cs∧f.2.2=st'
noncomputable def oO (T:ha) (df:Nat→Option i5):Nat→kw
 |0,_,_,_,_,_,_=>False
 |n+1,g,a,Y,d,c,s=>∃q f,df g=ac q∧j8 q.params a q.dflts=ac f∧aQ (dy T (oO T df n) 60) (sI q a d c s) ((e6 T 60).ss q.body f Y dV)
abbrev su:=Option (List eQ×d1)
noncomputable def B4:cR→Option aj
 |.h d=>ac d
 |.next=>ac a4
 |_=>ah
noncomputable def wt (q:i5) (a:List fJ) (x:su):Option (List eQ×aj×Option (List b0)×ar):=x.bind fun p=>(B4 p.2.1).map fun d=>(p.1,d,qS p.2.2.1 q.params a,p.2.2.2)
noncomputable def vF (ns:List Nat) (x:su):Option (List eQ×cR×Option au×ar):=x.map fun p=>(p.1,p.2.1,oT ns p.2.2.1,p.2.2.2)
theorem yT {q:i5} {a:List fJ} {x:su} {os:List eQ} {d:aj} {cs:List b0} {Y:ar} (h:wt q a x=ac (os,d,ac cs,Y)):∃f,x=ac (os,f)∧sI q a d cs Y f:=by
 refine(jG.mp h).elim fun p h=>(dg.mp h.2).elim fun v k=> ?_;have e:B4 p.2.1=ac d:=k.1.trans (aS (fun q=>ac q.2.1) k.2);refine⟨p.2,h.1.trans (aS (fun q=>ac (q.1,p.2)) k.2), ?_,aS (·.2.2.1) k.2,aS (·.2.2.2) k.2⟩;generalize p.2.1=f at e;cases f with
 |h v=>exact bD e
 |next=>exact(bD e).symm
 |_=>exact iM e
theorem NW {ns:List Nat} {x:su} {os:List eQ} {f:cR} {M:Option au} {Y:ar} (h:vF ns x=ac (os,f,M,Y)):∃L,x=ac (os,f,L,Y)∧oT ns L=M:=
 (dg.mp h).elim fun p k=>⟨p.2.2.1,k.1.trans (aS (fun q=>ac (q.1,q.2.1,p.2.2.1,q.2.2.2)) k.2),aS (·.2.2.1) k.2⟩
section
variable(T:ha) (df:Nat→Option i5)
noncomputable def JI (n g:Nat) (a:List fJ) (Y:ar) (s:jy):Option (List eQ×aj×Option (List b0)×ar):=(df g).bind fun q=>(j8 q.params a q.dflts).bind fun f=>wt q a (nK ((e6 T 60).ss q.body f Y dV) s)
theorem aw {T:ha} {df:Nat→Option i5} {n g:Nat} {a:List fJ} {Y st':ar} {d:aj} {cs:List b0} (k:Nat) (s:List (cK (dy T (oO T df n) 60))) (h:JI T df n g a Y (ln k s)=ac (lb s,d,ac cs,st'):=by kernel_rfl):oO T df (n+1) g a Y d cs st':=
 (jG.mp h).elim fun q h=>(jG.mp h.2).elim fun r k=>(yT k.2).elim fun f z=>⟨q,r,h.1,k.1,sD _ s z.1 z.2⟩
def yW (k g:Nat) (a:List fJ) (Y:ar) (d:aj) (cs:List b0) (st':ar):Prop:=∀n,k≤n→oO T df n g a Y d cs st'
theorem yW.of {k g:Nat} {a:List fJ} {Y st':ar} {d:aj} {cs:List b0} (h:∀n,k≤n→oO T df (n+1) g a Y d cs st'):yW T df (k+1) g a Y d cs st':=fun n b=>match n,b with
 |n+1,b=>h n (q8 b)
end
theorem wQ {X:dS} {Z:d1→Prop} {t:aT}:aQ X Z t→∃f,Z f∧aQ X (·=f) t:=t.rec EI (fun f=>fun h=>⟨f,h,rfl⟩) (fun o k i=>fun h=>ay h fun v a h=>(i v h).imp fun f h=>⟨h.1,v,a,h.2⟩) (fun o k i=>fun h=>ay h fun v a h=>(i v h).imp fun f h=>⟨h.1,v,a,h.2⟩) (fun o k i=>fun h=>bK h fun d v a h=>(i d v h).imp fun f h=>⟨h.1,d,v,a,h.2⟩) (fun g A Y k i=>fun h=>hQ h fun d c s a h=>(i d c s h).imp fun f h=>⟨h.1,d,c,s,a,h.2⟩) fun s k i=>fun h=>hQ h fun g L s a h=>(i g L s h).imp fun f h=>⟨h.1,g,L,s,a,h.2⟩
def mC (X:dS) (ns:List Nat) (t:aT) (f:cR) (M:au) (Y:ar):Prop:=∃k,∃s:List (cK X),vF ns (nK t (ln k s))=ac (lb s,f,ac M,Y)
theorem bq {X:dS} {ns:List Nat} {t:aT} {f:cR} {M:au} {Y:ar} (k:Nat) (s:List (cK X)) (h:vF ns (nK t (ln k s))=ac (lb s,f,ac M,Y):=by kernel_rfl):mC X ns t f M Y:=⟨k,s,h⟩
theorem mC.wp {X:dS} {ns:List Nat} {t:aT} {f:cR} {M:au} {Y:ar} (h:mC X ns t f M Y) {Z:d1→Prop} (z:∀L,oT ns L=ac M→Z (f,L,Y)):aQ X Z t:=h.elim fun k h=>h.elim fun s h=>(NW h).elim fun L q=>sD k s q.1 (z L q.2)
theorem w6 {Z:d1→Prop} {X:dS} {ns:List Nat} {L l:au} {k:au→aT} (h:oT ns L=ac l) (z:aQ X Z (k l)):aQ X Z (j3 ns L k):=by
 unfold j3;rw[h];exact z
noncomputable def qB:cR→cR
 |.o=>a'
 |f=>f
noncomputable def qZ:cR→Bool
 |.o=>af
 |.h _=>af
 |_=>ai
section
variable{T:ha} {Φ:kw} {α:Type} {k:Nat} {body:List eo} {t:e4} {σ:Type} {F:List α→σ→au} {S:List α→σ→ar} {I:List α→σ→Prop}
theorem tf {X:dS} {Z:d1→Prop} {ns:List Nat} {tr:aT} {M:au} {Y:ar} {C:ar→Bool} {g:au→ar→aT} {a:cR→au→ar→aT} {f:cR} (h:mC X ns tr f M Y) (b:f=a'∨f=iz) (c:C Y=af) (z:aQ X Z (g M Y)):aQ X Z (tr.bind (rN C ns g a)):=qn (h.wp fun L d=>by
 rcases b with rfl|rfl<;>
 ·show aQ X Z (if C Y=true then _ else _)
  rw[if_pos c];exact w6 d z)
theorem CS {X:dS} {Z:d1→Prop} {ns:List Nat} {tr:aT} {M:au} {Y:ar} {c:ar→Bool} {g:au→ar→aT} {f:cR} (h:mC X ns tr f M Y) (a:qZ f=af) (z:Z (qB f,M,Y)):aQ X Z (tr.bind (rN c ns g dV)):=qn (h.wp fun L b=>by
 cases f with
 |o=>exact w6 b z
 |h d=>exact w6 b z
 |next=>cases a
 |cont=>cases a)
theorem Kk {X:dS} {Z:d1→Prop} {f:α→aj} {b:Option (Nat×Nat)} {ds:List aj} {ns:List Nat} {D:List α} {tail:List aj}
  (s:∀d j r1 x,D=d++j::r1→I d x→∃a l,I (d++[j]) a∧(l=a'∨l=iz)∧mC X ns (uZ (e6 T k) body t (f j) (F d x) (S d x)) l (F (d++[j]) a) (S (d++[j]) a)∧gy b ds (S (d++[j]) a)=af)
  (z:∀x,I D x→aQ X Z (kU (e6 T k) body t (gy b ds) ns tail (F D x) (S D x) dV)) (r1:List α):∀d x,D=d++r1→I d x→aQ X Z (kU (e6 T k) body t (gy b ds) ns (r1.map f++tail) (F d x) (S d x) dV):=by
 induction r1 with
 |nil=>intro d x e h;rw[c8] at e;subst e;exact z x h
 |cons j r1 i=>exact fun d x e h=>ii (s d j r1 x e h) fun a l c g n m=>tf n g m (i (d++[j]) a (e.trans (rj ..)) c)
end
theorem H1 {X:dS} {Z:d1→Prop} {c:bt} {ns:List Nat} {σ:Type} {F:σ→au} {S:σ→ar} {I:σ→Prop} {b:σ→Nat} {k:Nat} {body:List eo} {T:ha}
  (s:∀x,I x→(∃a f,I a∧b a<b x∧(f=a'∨f=iz)∧mC X ns (sR (e6 T k) c body (F x) (S x)) f (F a) (S a))∨∃f M st',qZ f=af∧mC X ns (sR (e6 T k) c body (F x) (S x)) f M st'∧Z (qB f,M,st')):
  ∀n x,I x→b x<n→aQ X Z (mn (e6 T k) c body ns dV n (F x) (S x)):=fun n=>n.rec (fun x _ h=>aR h (rl _)) fun n g=>fun x i h=>(s x i).elim (fun z=>ii z fun a f j m d e=>tf e d rfl (g a j (ft m (iW h)))) fun z=>jS z fun f M st' d e z=>CS e d z
def iS (X:dS) (t:aT) (vs:List aj) (M:au) (Y:ar):Prop:=∃k,∃s:List (cK X),nK t (ln k s)=ac (lb s,.h (.c vs),M,Y)
theorem cX {X:dS} {t:aT} {vs:List aj} {M:au} {Y:ar} (k:Nat) (s:List (cK X)) (h:nK t (ln k s)=ac (lb s,.h (.c vs),M,Y):=by kernel_rfl):iS X t vs M Y:=⟨k,s,h⟩
theorem iS.wp {X:dS} {t:aT} {vs:List aj} {M:au} {Y:ar} (h:iS X t vs M Y) {Z:d1→Prop} (z:Z (.h (.c vs),M,Y)):aQ X Z t:=h.elim fun k h=>h.elim fun s h=>sD k s h z
theorem Fp {X:dS} {Z:d1→Prop} {α σ:Type} {f:α→aj} {E:bt} {i:List bt} {t:e4} {k:Nat} {T:ha} {V:List α→σ→List aj} {F:List α→σ→au} {S:List α→σ→ar} {I:List α→σ→Prop} {l:List α}
  (s:∀d j r1 x,l=d++j::r1→I d x→∃a vs,I (d++[j]) a∧V (d++[j]) a=V d x++vs∧iS X (r' (e6 T k) E t i (f j) (F d x) (S d x)) vs (F (d++[j]) a) (S (d++[j]) a)) {K:List aj→au→ar→aT}:
  ∀r1 d x,l=d++r1→I d x→(∀y us,I l y→V l y=V d x++us→aQ X Z (K us (F l y) (S l y)))→aQ X Z (qG (e6 T k) E t i (r1.map f) (F d x) (S d x) K):=by
 intro r1;induction r1 generalizing K with
 |nil=>intro d x e h z;rw[c8] at e;subst e;exact z x [] h (c8 _).symm
 |cons j r1 b=>exact fun d x e h z=>cF (s d j r1 x e h) fun a vs c v n=>qn (n.wp (b (d++[j]) a (e.trans (rj ..)) c fun y us g u=>z y (vs++us) g (by rw[u,v,ef])))
theorem eO {α:Type} {l d r:List α} {j:α} (e:l=d++j::r):j∈l:=e▸eD _ (kZ ..)
noncomputable def Hd (g:Nat):List Bool:=if[168,170,277,279,280,283,284,294].contains g then[af] else if g=169 then[ai,af] else[]
theorem lE {d e:aj} (h:ai=af):d=e:=hU h
theorem vT (d:aj):∀e:aj,aj.beq d e=af→d=e:=by
 refine aj.rec (motive_1:=fun d=>∀e,aj.beq d e=af→d=e) (motive_2:=fun l=>∀m,hX l m=af→l=m) (motive_3:=fun _=>True) (motive_4:=fun _=>True) ?_ ?_ ?_ ?_ ?_ ?_ ?_ ?_ ?_ ?_ ?_ trivial (fun _ _ _ _=>trivial) (fun _ _ _ _=>trivial) d
 ·intro e;induction e using aj.casesOn<;>first|exact lE|exact fun _=>rfl
 ·intro a e;induction e using aj.casesOn<;>first|exact lE|exact fun h=>aS _ (iv h)
 ·intro a e;induction e using aj.casesOn<;>first|exact lE|exact fun h=>aS _ (iv h)
 ·intro a e;induction e using aj.casesOn<;>first|exact lE|exact fun h=>aS _ (iv h)
 ·intro a i e;induction e using aj.casesOn<;>first|exact lE|exact fun h=>aS _ (i _ h)
 ·intro a i e;induction e using aj.casesOn<;>first|exact lE|exact fun h=>aS _ (i _ h)
 ·intro a i e;induction e using aj.casesOn<;>exact lE
 ·intro a e;induction e using aj.casesOn<;>first|exact lE|exact fun h=>aS _ (iv h)
 ·intro a x e;induction e using aj.casesOn<;>first|exact lE|exact fun h=>congr (aS _ (iv (bS.mp h).1)) (iv (bS.mp h).2)
 ·intro m h;induction m using cn with
  |nil=>rfl
  |cons _ _=>exact hU h
 ·intro d r b c m h;induction m using cn with
  |nil=>exact hU h
  |cons e t=>exact congr (aS _ (b e (bS.mp h).1)) (c t (bS.mp h).2)
theorem Fx (d e:List aj) (h:hX d e=af):d=e:=aj.c.inj (vT (.c d) (.c e) h)
theorem MW (n:Nat):∀d:aj,aj.key n d=af→aj.beq d d=true:=by
 induction n with
 |zero=>exact fun d h=>by cases d<;>first|exact beq_self_eq_true _|exact absurd h Bool.false_ne_true
 |succ n I=>
   intro d h;cases d with
   |int i=>exact iX i
   |str s=>exact iX s
   |j D=>
    have a:∀l:List aj,(∀d∈l,aj.key n d=af)→hX l l=true:=fun l=>by
     induction l with
     |nil=>exact fun _=>rfl
     |cons d r b=>exact fun h=>bS.mpr ⟨I d (h d (cU _)),b fun x c=>h x (e9 _ c)⟩
    exact a D (cH.mp h)
   |_=>exact aR h cp
theorem lw (d e:aj) (n:Nat) (h:aj.key n d=af):aj.beq d e=af↔d=e:=⟨vT d e,fun q=>q▸MW n d h⟩
noncomputable def v8:List (Nat×i5):=[
(157,⟨[1,2,3],[ae 0],[.h (.u (.f 1) 7 [.j [.h (ae 3),.f 2,.f 3]])]⟩),
(158,⟨[1,4,3],[ae 0],[.h (.u (.f 1) 7 [.j [.h (ae 4),.f 4,.f 3]])]⟩),
(159,⟨[1,5,3],[ae 0],[.h (.u (.f 1) 7 [.j [.h (ae 2),.l (.f 5) (.h (ae 1)) (.h (ae 0)),.f 3]])]⟩),
(160,⟨[1,6,7],[ae 0],[.h (.u (.f 1) 7 [.j [.h (ae 11),.f 6,.f 7]])]⟩),
(161,⟨[8,9],[],[bg 10 (.h (ae (-1))),.f (.a 11) (ap 11 [ap 10 [.f 8]]) [.l (.k c7 (az (az (.f 8) (.f 11)) (.h (ae 1))) (.f 9)) [bg 10 (.f 11)] []],.h (.f 10)]⟩),
(162,⟨[1,8],[],[bg 12 (ap 161 [.f 8,.j [.h (ae 0)]]),.j 13 [],.f (.a 11) (ap 11 [ap 10 [.f 8]]) [kn [14,15] (az (.f 8) (.f 11)),.l (cd [.k a6 (.f 15) (.h (ae 1)),.k eU (.f 11) (.f 12)]) [.d (.u (.f 13) 3 [.j [ap 172 [.f 1,.f 14],.h (ae 0)]])] [.d (.u (.f 13) 3 [.j [.f 14,.f 15]])]],.h (.f 13)]⟩),
(163,⟨[1,8,12],[],[bg 16 (.h (ae (-1))),.f (.a 11) (ap 11 [ap 10 [.f 8]]) [.l (cd [.k eU (.f 16) (.h (ae 0)),.k a6 (az (az (.f 8) (.f 11)) (.h (ae 1))) (.h (ae 2))]) [bg 16 (.f 11)] []],.l (cV [.k eU (.f 16) (.h (ae 0)),.k oq (.f 12) (.f 16)]) [.h (.f 8)] [],.j 17 [],.f (.b [14,15]) (.n (.f 8) (ac (.f 16)) (ac (.w b9 (.f 12) (.h (ae 1))))) [.d (.u (.f 17) 3 [.l (.k a6 (.f 15) (.h (ae 1))) (ap 172 [.f 1,.f 14]) (.f 14)])],.h (.w b9 (.w b9 (.n (.f 8) ah (ac (.f 16))) (dn [.j [ap 171 [.f 1,.f 17],.h (ae 2)]])) (.n (.f 8) (ac (.w b9 (.f 12) (.h (ae 1)))) ah))]⟩),
(164,⟨[1,8,7],[ae 0],[.g 18 (.j [.f 14,.f 15]) (.b [14,15]) (.f 8) [],.l (.k eU (ap 161 [.f 18,.j [.h (ae 3)]]) (.h (ae 0))) [bg 12 (ap 161 [.f 18,.j [.h (ae 2),.h (ae 1)]]),bg 18 (ap 163 [.f 1,ap 162 [.f 1,.f 18],.f 12]),.l (cd [.k a6 (ap 10 [.f 18]) (.h (ae 1)),.k a6 (az (az (.f 18) (.h (ae 0))) (.h (ae 1))) (.h (ae 2))]) [.h (ap 160 [.f 1,az (az (.f 18) (.h (ae 0))) (.h (ae 0)),.f 7])] []] [],.h (.u (.f 1) 7 [.j [.h (ae 12),ap 17 [.f 18],.f 7]])]⟩),
(165,⟨[1,19],[],[.l (.k a6 (.f 19) (.h (ae 2))) [.h (.j [])] [],bg 20 (az (aX (.f 1) 0) (.f 19)),.l (.k a6 (az (.f 20) (.h (ae 0))) (.h (ae 6))) [.h (az (.f 20) (.h (ae 1)))] [],.h (.j [.f 19])]⟩),
(166,⟨[20],[],[bg 21 (az (.f 20) (.h (ae 0))),.l (cV [.k a6 (.f 21) (.h (ae 3)),.k a6 (.f 21) (.h (ae 18))]) [.h (.h (ae 6))] [],.l (.k a6 (.f 21) (.h (ae 4))) [.h (.h (ae 7))] [],.l (.k a6 (.f 21) (.h (ae 5))) [.v] [],.h (.h (ae (-1)))]⟩),
(167,⟨[1,19],[],[bg 20 (az (aX (.f 1) 0) (.f 19)),.l (cd [.k c7 (az (.f 20) (.h (ae 0))) (.h (.j [ae 2,ae 3,ae 4,ae 5,ae 8])),.k a6 (az (.f 20) (.h (ae (-1)))) (.h (ae 1))]) [.h (.u (aX (.f 1) 8) 5 [.w b9 (.n (.f 20) ah (ac (.h (ae (-1))))) (.j [.h (ae 0)]),.h (ae (-1))])] [],.h (.h (ae (-1)))]⟩),
(168,⟨[22],[],[.l (cd [cV [.k c7 (.h (ae 8)) (.f 22),.k c7 (.h (ae 14)) (.f 22)],cV [.k c7 (.h (ae 9)) (.f 22),.k c7 (.h (ae 15)) (.f 22)]]) [eW (.f 22) (.h (ae 8)) (.h (ae 1)),eW (.f 22) (.h (ae 9)) (.h (ae 1))] []]⟩),
(169,⟨[1,22,19],[],[.l (.k c7 (ap 167 [.f 1,.f 19]) (.f 22)) [.h (.h (aA ai))] [],.h (.k m' (ap 166 [az (aX (.f 1) 0) (.f 19)]) (.f 22))]⟩),
(170,⟨[22],[],[.f (.a 19) (.j [.h (ae 0),.h (ae 13),.h (ae 1)]) [.l (.k c7 (.f 19) (.f 22)) [.h (.f 19)] []],.h (.h (ae (-1)))]⟩),
(171,⟨[1,23],[],[.p 22,.f (.a 19) (.f 23) [.f (.a 26) (ap 165 [.f 1,.f 19]) [eW (.f 22) (.f 26) (.h (ae 1))]],bg 24 (ap 170 [.f 22]),.l (.k jl (.f 24) (.h (ae 0))) [.h (.f 24)] [],.d (ap 168 [.f 22]),.g 25 (.f 19) (.a 19) (ap 12 [.f 22]) [ap 169 [.f 1,.f 22,.f 19]],.l (.q (.f 25)) [.h (.h (ae 2))] [],.l (.k a6 (ap 10 [.f 25]) (.h (ae 1))) [.h (az (.f 25) (.h (ae 0)))] [],.l (.k d4 (ap 10 [.f 25]) (.h (ae 400))) [.v] [],.h (.u (.f 1) 7 [.j [.h (ae 6),ap 17 [.f 25]]])]⟩),
(172,⟨[1,19],[],[.h (ap 171 [.f 1,.j [.f 19,.h (ae 4)]])]⟩),
(173,⟨[1,19],[],[.h (.k c7 (az (az (aX (.f 1) 0) (.f 19)) (.h (ae 0))) (.h (.j [ae 2,ae 3,ae 4,ae 5])))]⟩),
(174,⟨[1,19],[],[.h (cV [.k a6 (.f 19) (.h (ae 4)),.k a6 (.f 19) (.h (ae 5)),ap 173 [.f 1,.f 19]])]⟩),
(175,⟨[1,19],[],[bg 20 (az (aX (.f 1) 0) (.f 19)),.h (cd [.k c7 (az (.f 20) (.h (ae 0))) (.h (.j [ae 2,ae 3,ae 4,ae 5,ae 8])),.k a6 (az (.f 20) (.h (ae (-1)))) (.h (ae 1))])]⟩),
(176,⟨[1,19],[],[.l (ap 175 [.f 1,.f 19]) [.h (.u (.f 1) 7 [.w b9 (.n (az (aX (.f 1) 0) (.f 19)) ah (ac (.h (ae (-1))))) (.j [.h (ae 0)])])] [],.h (.f 19)]⟩),
(199,⟨[27,28,29,19],[],[bg 30 (.u (aX (.f 27) 1) 5 [.f 28]),.h (cd [.k pN (.f 30) (.h a4),.u (.f 30) 9 [.f 27,.f 29,.f 19]])]⟩),
(200,⟨[27,31],[],[bg 32 (ap 198 [aX (.f 27) 11,.f 31]),eV (.f 32) 1 (aX (.f 27) 1),eV (.f 32) 10 (.h (aA ai)),.h (.f 32)]⟩),
(201,⟨[27],[],[.l (.k a6 (aX (.f 27) 13) (.h (ae 3))) [.h (.f 27)] [],.l (.k .Is (aX (.f 27) 12) (.h a4)) [eV (.f 27) 12 (ap 200 [.f 27,.h (ae 3)])] [],.h (aX (.f 27) 12)]⟩),
(202,⟨[27,33],[],[.u (aX (aX (.f 27) 14) 0) (az (.f 33) (.h (ae 0))),.m (.k d4 (ap 10 [aX (.f 27) 15]) (az (.f 33) (.h (ae 1)))) [l0 (aX (.f 27) 16) (.u (aX (.f 27) 15) 2 [])]]⟩),
(203,⟨[34,19],[],[bg 19 (.u (.f 34) 17 [.f 19]),.l (ap 173 [aX (.f 34) 18,.f 19]) [.h (ap 176 [aX (.f 34) 18,.f 19])] [],.h (.f 19)]⟩),
(204,⟨[27,29,19],[],[.l (.k a6 (.f 29) (.f 19)) [.h (.h (aA af))] [],bg 29 (ap 203 [aX (.f 27) 11,.f 29]),bg 19 (ap 203 [aX (.f 27) 11,.f 19]),.l (.k a6 (.f 29) (.f 19)) [.h (.h (aA af))] [],.l (.k a6 (aX (.f 27) 13) (.h (ae 3))) [bg 18 (aX (aX (aX (.f 27) 11) 18) 0),.l (cV [.k a6 (.f 29) (.h (ae 13)),.k a6 (.f 19) (.h (ae 13))]) [.h (.h (aA af))] [],.l (cV [.k c7 (az (az (.f 18) (.f 29)) (.h (ae 0))) (.h (.j [ae 1,ae 2,ae 3,ae 4,ae 5])),.k c7 (az (az (.f 18) (.f 19)) (.h (ae 0))) (.h (.j [ae 1,ae 2,ae 3,ae 4,ae 5]))]) [.h (.h (aA ai))] [],.h (ap 205 [.f 27,.f 29,.f 19])] [],bg 35 (ap 209 [.f 27,.f 29,.f 19]),.l (cV [.k a6 (.f 35) (.h (ae 1)),cd [.k a6 (aX (.f 27) 13) (.h (ae 2)),.k eG (.f 19) (.h (ae 2)),.k a6 (ap 209 [.f 27,.f 19,.f 29]) (.h (ae 1))]]) [.h (.h (aA af))] [],.h (cd [.k eU (.f 35) (.h (ae 0)),ap 205 [.f 27,.f 29,.f 19]])]⟩),
(205,⟨[27,29,19],[],[bg 36 (.j [.f 29,.f 19]),.l (.k c7 (.f 36) (aX (.f 27) 21)) [.h (az (aX (.f 27) 21) (.f 36))] [],.l (.k c7 (.f 36) (aX (.f 27) 16)) [.h (.h (aA af))] [],.l (cd [.k jl (aX (.f 27) 19) (.h (ae 20000)),.q (ap 207 [.f 27])]) [.h (.h (aA ai))] [],.l (cV [.k jl (aX (.f 27) 20) (.h (ae 60)),.k jl (aX (.f 27) 19) (.h (ae 20000))]) [.d (.u (.f 27) 23 [.h (ae 15)]),.h (.h (aA af))] [],.q (.f 27) 19 b9 (.h (ae 1)),bg 33 (.u (.f 27) 22 []),eW (aX (.f 27) 16) (.f 36) (.h (ae 1)),.d (.u (aX (.f 27) 15) 3 [.f 36]),.q (.f 27) 20 b9 (.h (ae 1)),bg 37 (.l (.k a6 (aX (.f 27) 13) (.h (ae 3))) (ap 221 [.f 27,.f 29,.f 19]) (ap 215 [.f 27,.f 29,.f 19])),.q (.f 27) 20 fU (.h (ae 1)),.l (.q (.f 37)) [.d (ap 202 [.f 27,.f 33]),.l (cV [.k a6 (az (.f 33) (.h (ae 1))) (.h (ae 0)),.k eG (aX (.f 27) 13) (.h (ae 4))]) [eW (aX (.f 27) 21) (.f 36) (.h (aA ai))] []] [.l (.k a6 (az (.f 33) (.h (ae 1))) (.h (ae 0))) [.d (ap 206 [.f 27,.k a6 (ap 10 [aX (aX (.f 27) 14) 0]) (az (.f 33) (.h (ae 0)))])] []],.h (.f 37)]⟩),
(206,⟨[27,38],[],[.f (.a 36) (aX (.f 27) 15) [l0 (aX (.f 27) 16) (.f 36),.l (.f 38) [eW (aX (.f 27) 21) (.f 36) (.h (aA af))] []],.k (.f 27) 15 []]⟩),
(207,⟨[27],[],[.h (cd [aX (.f 27) 10,.k a6 (aX (.f 27) 13) (.h (ae 1))])]⟩),
(208,⟨[27,29,19],[],[.l (cd [ap 207 [.f 27],.k eG (.f 29) (.h (ae 13)),.k eG (.f 19) (.h (ae 13)),.q (.u (.f 27) 24 [.f 29,.f 19])]) [.d (.u (.f 27) 23 [.h (ae 3)])] []]⟩),
(209,⟨[27,29,19],[],[bg 35 (ap 210 [.f 27,.f 29,.f 19]),.l (.k jl (.f 35) (.h (ae 0))) [.h (.f 35)] [],bg 18 (aX (aX (aX (.f 27) 11) 18) 0),bg 39 (az (az (.f 18) (.f 29)) (.h (ae 0))),bg 5 (az (az (.f 18) (.f 19)) (.h (ae 0))),.l (cV [.k c7 (.f 39) (.h (.j [ae 6,ae 7,ae 10,ae 14,ae 15,ae 16,ae 17,ae 18,ae 19])),.k c7 (.f 5) (.h (.j [ae 6,ae 7,ae 10,ae 14,ae 15,ae 16,ae 17,ae 18,ae 19]))]) [.h (.h (ae (-1)))] [],.l (.k a6 (.f 19) (.h (ae 10))) [.h (.l (.k c7 (.f 39) (.h (.j [ae 1,ae 2,ae 3,ae 4,ae 5]))) (.h (ae 0)) (.h (ae (-1))))] [],.l (.k c7 (.f 5) (.h (.j [ae 1,ae 2,ae 3,ae 4,ae 5]))) [.h (.l (.k c7 (.f 39) (.h (.j [ae 1,ae 2,ae 3,ae 4,ae 5]))) (ap 213 [.f 27,.f 29,.f 19]) (.h (ae 0)))] [],.l (cV [.k a6 (.f 29) (.h (ae 4)),.k a6 (.f 29) (.h (ae 5)),.k a6 (.f 29) (.h (ae 3))]) [.h (.h (ae 0))] [],.h (.h (ae (-1)))]⟩),
(210,⟨[27,29,19],[],[.l (cV [.k a6 (.f 19) (.h (ae 0)),.k a6 (.f 19) (.h (ae 13)),.k a6 (.f 29) (.h (ae 2)),.k a6 (.f 29) (.h (ae 13))]) [.h (.h (ae 1))] [],.l (cd [.k a6 (.f 29) (.h (ae 0)),.k a6 (aX (.f 27) 13) (.h (ae 4))]) [.h (.h (ae 0))] [],.l (.k a6 (.f 19) (.h (ae 1))) [.h (.h (ae 1))] [],.l (.k a6 (.f 29) (.h (ae 0))) [.l (.k a6 (.f 19) (.h (ae 2))) [.h (.h (ae 0))] [],.d (.u (.f 27) 23 [.h (ae 1)]),.h (.h (ae 1))] [],.l (.k a6 (.f 29) (.h (ae 1))) [.h (ap 211 [.f 27,.f 19])] [],.l (cd [.k a6 (.f 19) (.h (ae 2)),.k m' (az (az (aX (aX (aX (.f 27) 11) 18) 0) (.f 29)) (.h (ae 0))) (.h (.j [ae 6,ae 7,ae 10,ae 14,ae 15,ae 16,ae 17,ae 18,ae 19]))]) [.h (.h (ae 0))] [],.h (.h (ae (-1)))]⟩),
(212,⟨[20],[],[.h (cd [.k a6 (az (.f 20) (.h (ae 0))) (.h (ae 5)),.k a6 (ap 166 [.f 20]) (.h (ae 7))])]⟩),
(213,⟨[27,29,19],[],[.l (.k a6 (.f 29) (.h (ae 4))) [.h (.l (.k a6 (.f 19) (.h (ae 3))) (.h (ae 1)) (.h (ae 0)))] [],bg 39 (az (aX (aX (aX (.f 27) 11) 18) 0) (.f 29)),bg 5 (az (aX (aX (aX (.f 27) 11) 18) 0) (.f 19)),.l (cd [.k a6 (ap 166 [.f 39]) (.f 19),.k jl (ap 166 [.f 39]) (.h (ae 0))]) [.h (.h (ae 1))] [],.l (cd [.k a6 (aX (.f 27) 13) (.h (ae 2)),.k a6 (ap 166 [.f 5]) (.f 29)]) [.h (.h (ae 1))] [],.l (cd [.k a6 (az (.f 39) (.h (ae 0))) (.h (ae 5)),.k a6 (az (.f 5) (.h (ae 0))) (.h (ae 5)),.k a6 (az (.f 39) (.h (ae 1))) (az (.f 5) (.h (ae 1)))]) [.h (.l (.k a6 (az (.f 39) (.h (ae 3))) (az (.f 5) (.h (ae 3)))) (.h (ae 1)) (.h (ae 0)))] [],.l (.k a6 (az (.f 39) (.h (ae 0))) (.h (ae 5))) [.h (.l (cd [.k c7 (az (.f 5) (.h (ae 0))) (.j [.h (ae 3),.h (ae 4)]),.k a6 (ap 166 [.f 5]) (ap 166 [.f 39]),.k a6 (az (.f 5) (.h (ae 1))) (az (.f 39) (.h (ae 3)))]) (.h (ae 1)) (.h (ae 0)))] [],.h (ap 214 [.f 27,.f 29,.f 39,.f 5])]⟩),
(214,⟨[27,29,39,5],[],[.l (cV [.k a6 (aX (.f 27) 13) (.h (ae 4)),.q (ap 212 [.f 5])]) [.h (.h (ae 0))] [],.l (cV [.k a6 (.f 29) (.h (ae 7)),cd [.k a6 (az (.f 39) (.h (ae 0))) (.h (ae 4)),.k a6 (az (.f 39) (.h (ae 1))) (az (.f 5) (.h (ae 3)))]]) [.d (.u (.f 27) 23 [.h (ae 10)]),.h (.h (ae 1))] [],.h (.h (ae 0))]⟩),
(215,⟨[27,29,19],[],[bg 18 (aX (aX (aX (.f 27) 11) 18) 0),bg 39 (az (az (.f 18) (.f 29)) (.h (ae 0))),bg 5 (az (az (.f 18) (.f 19)) (.h (ae 0))),.l (.k a6 (.f 39) (.h (ae 6))) [.h (ap 217 [.f 27,.f 29,.f 19])] [],.l (.k a6 (.f 5) (.h (ae 6))) [.h (ap 220 [.f 27,.f 29,.f 19])] [],.h (ap 199 [.f 27,ap 216 [.f 39,.f 5],.f 29,.f 19])]⟩),
(216,⟨[39,5],[],[.l (cV [.k a6 (.f 39) (.h (ae 7)),.k a6 (.f 5) (.h (ae 7))]) [.h (.h (ae 1))] [],.l (cV [.k c7 (.f 39) (.h (.j [ae 10,ae 14,ae 15,ae 16,ae 17,ae 18,ae 19])),.k c7 (.f 5) (.h (.j [ae 10,ae 14,ae 15,ae 16,ae 17,ae 18,ae 19]))]) [.h (.h (ae 2))] [],.l (cd [.k a6 (.f 39) (.h (ae 13)),.k a6 (.f 5) (.h (ae 13))]) [.h (.h (ae 3))] [],.l (cd [.k c7 (.f 39) (.h (.j [ae 11,ae 12])),.k c7 (.f 5) (.h (.j [ae 11,ae 12]))]) [.h (.h (ae 4))] [],.h (.h (ae 5))]⟩),
(217,⟨[27,29,19],[],[.f (.a 26) (ap 165 [aX (aX (.f 27) 11) 18,.f 29]) [.l (.u (.f 27) 25 [.f 26,.f 19]) [.l (.k a6 (aX (.f 27) 13) (.h (ae 2))) [.h (.h (aA af))] []] [.l (.k eG (aX (.f 27) 13) (.h (ae 2))) [.h (.h (aA ai))] []]],.h (.k eG (aX (.f 27) 13) (.h (ae 2)))]⟩),
(218,⟨[27,29,23],[],[bg 40 (.h a4),.f (.a 26) (.f 23) [bg 33 (.u (.f 27) 22 []),.l (.u (.f 27) 25 [.f 29,.f 26]) [.l (.k a6 (ap 10 [aX (aX (.f 27) 14) 0]) (az (.f 33) (.h (ae 0)))) [.h (.h (aA af))] [],.l (.k .Is (.f 40) (.h a4)) [bg 40 (.j [.n (aX (aX (.f 27) 14) 0) (ac (az (.f 33) (.h (ae 0)))) ah,.n (aX (.f 27) 15) (ac (az (.f 33) (.h (ae 1)))) ah])] [],.d (.u (.f 27) 26 [.f 33])] []],.l (.k .Is (.f 40) (.h a4)) [.h (.h (aA ai))] [],.d (ap 219 [.f 27,.f 40]),.h (.h (aA af))]⟩),
(219,⟨[27,40],[],[.d (.u (aX (aX (.f 27) 14) 0) 4 [az (.f 40) (.h (ae 0))]),.f (.a 36) (az (.f 40) (.h (ae 1))) [.l (cd [.k m' (.f 36) (aX (.f 27) 16),.k m' (.f 36) (aX (.f 27) 21)]) [eW (aX (.f 27) 16) (.f 36) (.h (ae 1)),.d (.u (aX (.f 27) 15) 3 [.f 36])] []]]⟩),
(220,⟨[27,29,19],[],[bg 1 (aX (aX (.f 27) 11) 18),bg 23 (ap 165 [.f 1,.f 19]),.l (cV [.k c7 (.f 29) (.f 23),ap 218 [.f 27,.f 29,.f 23]]) [.h (.h (aA af))] [],bg 21 (az (az (aX (.f 1) 0) (.f 29)) (.h (ae 0))),.l (.k c7 (.f 21) (.h (.j [ae 10,ae 14,ae 15,ae 16,ae 17,ae 18,ae 19]))) [.h (ap 199 [.f 27,.h (ae 2),.f 29,.f 19])] [],.l (cd [.k a6 (.f 21) (.h (ae 7)),ap 199 [.f 27,.h (ae 1),.f 29,.f 19]]) [.h (.h (aA af))] [],.l (cV [.k a6 (.f 21) (.h (ae 7)),.k c7 (.f 21) (.h (.j [ae 8,ae 9]))]) [.h (ap 199 [.f 27,.h (ae 6),.f 29,.f 19])] [],.h (cd [.k a6 (.f 21) (.h (ae 12)),ap 199 [.f 27,.h (ae 12),.f 29,.f 19]])]⟩),
(221,⟨[27,29,19],[],[bg 18 (aX (aX (aX (.f 27) 11) 18) 0),bg 39 (az (.f 18) (.f 29)),bg 5 (az (.f 18) (.f 19)),.l (cd [.k a6 (az (.f 39) (.h (ae 0))) (az (.f 5) (.h (ae 0))),cV [.k a6 (az (.f 39) (.h (ae 0))) (.h (ae 6)),.k a6 (az (.f 39) (.h (ae 0))) (.h (ae 7))]]) [.h (cd [ap 222 [.f 27,az (.f 39) (.h (ae 1)),az (.f 5) (.h (ae 1))],ap 222 [.f 27,az (.f 5) (.h (ae 1)),az (.f 39) (.h (ae 1))]])] [],.l (cV [.k c7 (az (.f 39) (.h (ae 0))) (.j [.h (ae 6),.h (ae 7)]),.k c7 (az (.f 5) (.h (ae 0))) (.j [.h (ae 6),.h (ae 7)])]) [.h (.h (aA ai))] [],.h (ap 199 [.f 27,ap 216 [az (.f 39) (.h (ae 0)),az (.f 5) (.h (ae 0))],.f 29,.f 19])]⟩),
(222,⟨[27,41,42],[],[.f (.a 29) (.f 41) [.l (.q (ap 218 [.f 27,.f 29,.f 42])) [.h (.h (aA ai))] []],.h (.h (aA af))]⟩),
(224,⟨[1,19],[],[bg 23 (ap 165 [.f 1,.f 19]),.h (cd [.k d4 (ap 10 [.f 23]) (.h (ae 0)),ap 14 [dY (ap 174 [.f 1,.f 26]) (.a 26) (.f 23) []]])]⟩),
(227,⟨[18],[],[.p 43,.f (.a 44) (.f 18) [bg 45 (cd [.k pN (.f 44) (.h a4),.k eG (.w uA (az (.f 44) (.h (ae 2))) (.w iw (.h (ae 8)) (.h (ae 16)))) (.h (ae 0))]),eW (.f 43) (.l (.f 45) (az (.f 44) (.h (ae 3))) (.h (ae 0))) (.h (ae 1))],.h (.k d4 (ap 10 [.f 43]) (.h (ae 1)))]⟩),
(228,⟨[34,19],[],[.j 13 [],.p 46,.j 47 [.f 19],.m (.f 47) [bg 48 (.u (.f 34) 17 [.u (.f 47) 2 []]),.l (.k c7 (.f 48) (.f 46)) [rF] [],eW (.f 46) (.f 48) (.h (ae 1)),bg 20 (az (aX (aX (.f 34) 18) 0) (.f 48)),bg 49 (.l (.k a6 (az (.f 20) (.h (ae 0))) (.h (ae 6))) (az (.f 20) (.h (ae 1))) (.j [.l (.k c7 (az (.f 20) (.h (ae 0))) (.h (.j [ae 11,ae 12]))) (.f 48) (.u (.f 34) 27 [.f 48])])),.l (.k a6 (.f 49) (.j [.f 48])) [.d (.u (.f 13) 3 [.f 48])] [.d (.u (.f 47) 4 [.f 49])]],.h (.f 13)]⟩),
(233,⟨[1,6],[],[.l (.k a6 (az (.f 6) (.h (ae 1))) (.h (ae 3))) [.h (.h (ae 1))] [],.h (.l (.k a6 (az (.f 6) (.h (ae 1))) (.h (ae 1))) (ap 172 [.f 1,az (.f 6) (.h (ae 0))]) (az (.f 6) (.h (ae 0))))]⟩),
(234,⟨[20],[],[.l (.k a6 (az (.f 20) (.h (ae 0))) (.h (ae 11))) [.h (.h (ae 0))] [],.f (.a 11) (ap 11 [ap 10 [az (.f 20) (.h (ae 1))]]) [.l (.k c7 (az (az (az (.f 20) (.h (ae 1))) (.f 11)) (.h (ae 1))) (.j [.h (ae 2),.h (ae 3)])) [.h (.f 11)] []],.h (ap 10 [az (.f 20) (.h (ae 1))])]⟩),
(236,⟨[50],[],[bg 51 (ap 14 [dY (.s oq oq (.h (bP "0")) (.f 52) (.h (bP "9"))) (.a 52) (.f 50) []]),.h (cV [.k a6 (.f 50) (.h (bP "0")),cd [.k eG (.f 50) (.h (bP "")),.k eG (az (.f 50) (.h (ae 0))) (.h (bP "0")),.f 51]])]⟩),
(237,⟨[50],[],[.h (.l (.k eU (ap 10 [.f 50]) (.h (ae 16))) (ap 16 [.f 50]) (.w .Pow (.h (ae 10)) (.h (ae 16))))]⟩),
(238,⟨[50],[],[.l (.k a6 (.f 50) (.h (bP "NaN"))) [.h (.h (aA af))] [],.l (cd [.k a6 (.n (.f 50) (ac (.h (ae 0))) (ac (.h (ae 1)))) (.h (bP "-")),.k eG (.f 50) (.h (bP "-0"))]) [bg 50 (.n (.f 50) (ac (.h (ae 1))) ah)] [],.h (cV [ap 236 [.f 50],.k a6 (.f 50) (.h (bP "Infinity"))])]⟩),
(239,⟨[34,19,50],[],[bg 19 (.u (.f 34) 17 [.f 19]),bg 20 (az (aX (aX (.f 34) 18) 0) (.f 19)),.l (cV [.k a6 (az (.f 20) (.h (ae 0))) (.h (ae 11)),.k a6 (az (.f 20) (.h (ae 0))) (.h (ae 12))]) [bg 44 (.u (.f 34) 28 [.f 19,.f 50])] [bg 44 (ap 235 [az (aX (aX (.f 34) 18) 0) (.u (.f 34) 29 [.f 19]),.f 50])],.h (.l (.k .Is (.f 44) (.h a4)) (.h a4) (.j [.f 50,.u (.f 34) 17 [az (.f 44) (.h (ae 1))],az (.f 44) (.h (ae 2)),az (.f 44) (.h (ae 3))]))]⟩),
(241,⟨[34,20],[],[bg 53 (.n (az (.f 20) (.h (ae 1))) (ac (ap 234 [.f 20])) ah),.h (.l (.f 53) (ap 171 [aX (.f 34) 18,dY (ap 233 [aX (.f 34) 18,.f 6]) (.a 6) (.f 53) []]) (.h (ae (-1))))]⟩),
(242,⟨[34,20,50],[],[.l (.k a6 (az (.f 20) (.h (ae 0))) (.h (ae 11))) [.h (.l (ap 238 [.f 50]) (az (.f 20) (.h (ae 1))) (.h (ae (-1))))] [],.h (.l (ap 236 [.f 50]) (ap 246 [.f 34,.f 20,ap 237 [.f 50]]) (.h (ae (-1))))]⟩),
(243,⟨[34,19,50],[],[bg 20 (az (aX (aX (.f 34) 18) 0) (.f 19)),.l (cV [.k a6 (az (.f 20) (.h (ae 0))) (.h (ae 11)),.k a6 (az (.f 20) (.h (ae 0))) (.h (ae 12))]) [bg 19 (ap 242 [.f 34,.f 20,.f 50]),.h (.l (.k eU (.f 19) (.h (ae 0))) (.f 19) (.u (.f 34) 17 [.f 19]))] [],bg 54 (az (aX (aX (.f 34) 18) 0) (.u (.f 34) 29 [.f 19])),.l (cd [ap 238 [.f 50],.k eG (az (.f 54) (.h (ae 5))) (.j [])]) [.h (.u (.f 34) 17 [az (az (.f 54) (.h (ae 5))) (.h (ae 0))])] [],.h (.l (.k a6 (az (.f 54) (.h (ae 4))) (.j [])) (.h (ae (-1))) (.u (.f 34) 17 [az (az (.f 54) (.h (ae 4))) (.h (ae 0))]))]⟩),
(244,⟨[34,19,44,50],[],[.l (cV [.k a6 (.f 19) (.h (ae 0)),.k a6 (.f 19) (.h (ae 13))]) [.h (.f 19)] [],.h (.l (.k .Is (.f 44) (.h a4)) (ap 243 [.f 34,.f 19,.f 50]) (ap 240 [aX (.f 34) 18,.f 44]))]⟩),
(245,⟨[34,19,50],[],[.g 23 (.u (.f 34) 17 [.u (.f 34) 27 [.f 26]]) (.a 26) (ap 228 [.f 34,.f 19]) [],.g 18 (.l (.k c7 (.f 26) (.j [.h (ae 0),.h (ae 13)])) (.h a4) (ap 239 [.f 34,.f 26,.f 50])) (.a 26) (.f 23) [],.g 10 (ap 244 [.f 34,az (.f 23) (.f 11),az (.f 18) (.f 11),.f 50]) (.a 11) (ap 11 [ap 10 [.f 23]]) [],.h (.l (cV [.k c7 (.h (ae (-1))) (.f 10),.q (.f 10),ap 227 [.f 18]]) (.h (ae (-1))) (ap 171 [aX (.f 34) 18,.f 10]))]⟩),
(246,⟨[34,20,11],[],[.l (.k eU (.f 11) (ap 234 [.f 20])) [.h (ap 233 [aX (.f 34) 18,az (az (.f 20) (.h (ae 1))) (.f 11)])] [],.h (ap 241 [.f 34,.f 20])]⟩),
(248,⟨[34,19],[],[bg 20 (az (aX (aX (.f 34) 18) 0) (.f 19)),.l (.k a6 (az (.f 20) (.h (ae 0))) (.h (ae 18))) [.h (ap 14 [dY (.k eG (az (az (aX (aX (.f 34) 18) 0) (.f 55)) (.h (ae 0))) (.h (ae 10))) (.a 55) (az (.f 20) (.h (ae 2))) []])] [],.h (ap 224 [aX (.f 34) 18,.f 19])]⟩),
(249,⟨[34,23,50],[],[.p 56,.f (.a 26) (.f 23) [bg 14 (ap 245 [.f 34,.f 26,.f 50]),.l (.k jl (.f 14) (.h (ae 0))) [eW (.f 56) (.f 14) (.h (ae 1))] []],.g 57 (.f 14) (.a 14) (.f 56) [ap 248 [.f 34,.u (.f 34) 17 [.f 14]]],.h (cd [.k d4 (ap 10 [.f 56]) (.h (ae 1)),.k d4 (ap 10 [.f 57]) (.h (ae 0))])]⟩),
(253,⟨[27,23,50],[],[bg 30 (.u (aX (.f 27) 1) 5 [.h (ae 13)]),.h (cd [.k pN (.f 30) (.h a4),.u (.f 30) 30 [.f 27,.f 23,.f 50]])]⟩),
(254,⟨[58],[],[.j 18 [.y],.f (.b [50,59]) (.f 58) [.j 60 [],.f (.a 20) (.f 18) [.f (.a 61) (.f 59) [.w 62 (.f 20),eW (.f 62) (.f 50) (.f 61),.d (.u (.f 60) 3 [.f 62])]],.l (.k d4 (ap 10 [.f 60]) (.h (ae 25))) [.h (dn [])] [],bg 18 (.f 60)],.h (.f 18)]⟩),
(255,⟨[27,20,23],[],[bg 34 (aX (.f 27) 11),.j 13 [],.f (.a 11) (ap 11 [ap 10 [az (.f 20) (.h (ae 1))]]) [kn [14,15] (az (az (.f 20) (.h (ae 1))) (.f 11)),bg 21 (.u (.f 34) 17 [.f 14]),.l (.k eG (.f 15) (.h (ae 0))) [.o] [],.l (cd [.k d4 (ap 10 [ap 165 [aX (.f 34) 18,.f 21]]) (.h (ae 1)),ap 253 [.f 27,.f 23,ap 15 [.f 11]]]) [.d (.u (.f 13) 3 [.j [.f 11,ap 165 [aX (.f 34) 18,.f 21]]])] []],.h (.f 13)]⟩),
(256,⟨[27,29,23],[],[bg 34 (aX (.f 27) 11),bg 20 (az (aX (aX (.f 34) 18) 0) (.f 29)),.g 63 (.f 26) (.a 26) (.f 23) [.k c7 (az (az (aX (aX (.f 34) 18) 0) (.f 26)) (.h (ae 0))) (.h (.j [ae 11,ae 12]))],bg 64 (ap 254 [ap 255 [.f 27,.f 20,.f 63]]),.l (.k eU (ap 10 [.f 64]) (.h (ae 2))) [.h (.h (aA ai))] [],.f (.a 62) (.f 64) [.g 8 (.j [.u (.f 62) 5 [.f 48,az (az (az (.f 20) (.h (ae 1))) (.f 48)) (.h (ae 0))],az (az (az (.f 20) (.h (ae 1))) (.f 48)) (.h (ae 1))]) (.a 48) (ap 11 [ap 10 [az (.f 20) (.h (ae 1))]]) [],.l (.q (ap 218 [.f 27,ap 164 [aX (.f 34) 18,.f 8,az (.f 20) (.h (ae 2))],.f 63])) [.h (.h (aA ai))] []],.l (.q (az (.f 20) (.h (ae 2)))) [.d (.u (.f 27) 23 [.h (ae 3)])] [],.h (.h (aA af))]⟩),
(258,⟨[27],[],[eW (aX (.f 27) 1) (.h (ae 13)) (ap 252 [])]⟩),
(259,⟨[27],[],[eW (aX (.f 27) 1) (.h (ae 12)) (ap 257 [])]⟩),
(261,⟨[8],[],[.h (ap 10 [dY (.f 6) (.a 6) (.f 8) [.k a6 (az (.f 6) (.h (ae 1))) (.h (ae 0))]])]⟩),
(262,⟨[8],[],[.f (.a 11) (ap 11 [ap 10 [.f 8]]) [.l (.k jl (az (az (.f 8) (.f 11)) (.h (ae 1))) (.h (ae 2))) [.h (.f 11)] []],.h (.h (ae (-1)))]⟩),
(263,⟨[8,65,11],[],[bg 66 (ap 262 [.f 8]),.l (cV [.k eU (.f 66) (.h (ae 0)),.k eU (.f 11) (.f 66)]) [.h (az (.f 8) (.f 11))] [],bg 67 (.w fU (.w fU (ap 10 [.f 8]) (.f 66)) (.h (ae 1))),.l (.k jl (.f 11) (.w fU (.f 65) (.f 67))) [.h (az (.f 8) (.w fU (ap 10 [.f 8]) (.w fU (.f 65) (.f 11))))] [],.h (az (.f 8) (.f 66))]⟩),
(264,⟨[39,5],[],[.l (.k eU (ap 261 [.f 39]) (ap 261 [.f 5])) [.h (.h (aA ai))] [],.l (.k jl (ap 262 [.f 5]) (.h (ae 0))) [.h (.h (aA af))] [],.h (cd [.k eU (ap 262 [.f 39]) (.h (ae 0)),.k oq (ap 10 [.f 39]) (ap 10 [.f 5])])]⟩),
(265,⟨[1,39,5],[],[bg 24 (.l (.k eU (ap 262 [.f 39]) (.h (ae 0))) (ap 10 [.f 39]) (.w b9 (ap 10 [.f 39]) (ap 10 [.f 5]))),.g 68 (.j [ap 233 [.f 1,.f 6],az (.f 6) (.h (ae 1))]) (.a 6) (.f 39) [],.g 69 (.j [ap 233 [.f 1,.f 6],az (.f 6) (.h (ae 1))]) (.a 6) (.f 5) [],.p 10,.f (.a 65) (ap 11 [ap 261 [.f 39],.w b9 (.f 24) (.h (ae 1))]) [.f (.a 11) (ap 11 [.f 65]) [eW (.f 10) (.j [az (ap 263 [.f 68,.f 65,.f 11]) (.h (ae 0)),az (ap 263 [.f 69,.f 65,.f 11]) (.h (ae 0))]) (.h (ae 1))]],.h (dY (.f 70) (.a 70) (.f 10) [])]⟩),
(266,⟨[8],[],[.h (.k d4 (ap 10 [dY (.f 6) (.a 6) (.f 8) [.k a6 (az (.f 6) (.h (ae 1))) (.h (ae 3))]]) (.h (ae 0)))]⟩),
(268,⟨[27,71,72],[],[.f (.b [29,19]) (.f 71) [.l (.q (.u (.f 27) 25 [.f 29,.f 19])) [.h (.h (aA ai))] [],.l (.q (.f 72)) [.d (ap 208 [.f 27,.f 29,.f 19])] []],.h (.h (aA af))]⟩),
(270,⟨[27,39,5,72],[],[.l (cV [ap 266 [.f 5],.k a6 (aX (.f 27) 13) (.h (ae 3))]) [.h (ap 267 [.f 27,.f 39,.f 5])] [],.l (ap 266 [.f 39]) [bg 39 (ap 269 [.f 27,.f 39,.f 5]),.l (.k a6 (.f 39) (.j [])) [.h (.h (aA ai))] []] [],.l (.q (ap 264 [.f 39,.f 5])) [.h (.h (aA ai))] [],.l (cd [.q (.f 72),.k eG (dY (az (.f 6) (.h (ae 1))) (.a 6) (.f 39) []) (dY (az (.f 6) (.h (ae 1))) (.a 6) (.f 5) [])]) [.d (.u (.f 27) 23 [.h (ae 3)])] [],.h (ap 268 [.f 27,ap 265 [aX (aX (.f 27) 11) 18,.f 39,.f 5],.f 72])]⟩),
(271,⟨[27,8,19,72],[],[.l (.q (.f 72)) [.d (.u (.f 27) 23 [.h (ae 3)])] [],bg 1 (aX (aX (.f 27) 11) 18),bg 73 (ap 160 [.f 1,.f 19,.h (ae 1)]),.j 71 [],.f (.a 6) (.f 8) [.d (.u (.f 71) 3 [.l (.k a6 (az (.f 6) (.h (ae 1))) (.h (ae 3))) (.j [az (.f 6) (.h (ae 0)),.f 73]) (.j [ap 233 [.f 1,.f 6],.f 19])])],.h (ap 268 [.f 27,.f 71,.f 72])]⟩),
(272,⟨[27,29,19],[],[bg 39 (az (aX (aX (aX (.f 27) 11) 18) 0) (.f 29)),bg 5 (az (aX (aX (aX (.f 27) 11) 18) 0) (.f 19)),.l (cd [az (.f 39) (.h (ae 2)),.q (az (.f 5) (.h (ae 2)))]) [.h (.h (aA ai))] [],.l (cd [.k a6 (aX (.f 27) 13) (.h (ae 3)),cV [.k eG (az (.f 39) (.h (ae 0))) (az (.f 5) (.h (ae 0))),.k eG (az (.f 39) (.h (ae 2))) (az (.f 5) (.h (ae 2)))]]) [.h (.h (aA ai))] [],.l (cd [.k a6 (az (.f 39) (.h (ae 0))) (.h (ae 11)),.k a6 (az (.f 5) (.h (ae 0))) (.h (ae 11))]) [.h (ap 268 [.f 27,dn [.j [az (.f 39) (.h (ae 1)),az (.f 5) (.h (ae 1))]],az (.f 5) (.h (ae 2))])] [],.l (.k a6 (az (.f 5) (.h (ae 0))) (.h (ae 11))) [.h (ap 271 [.f 27,az (.f 39) (.h (ae 1)),az (.f 5) (.h (ae 1)),az (.f 5) (.h (ae 2))])] [],.l (.k a6 (az (.f 39) (.h (ae 0))) (.h (ae 11))) [.h (ap 270 [.f 27,.j [.j [az (.f 39) (.h (ae 1)),.h (ae 2)]],az (.f 5) (.h (ae 1)),az (.f 5) (.h (ae 2))])] [],.h (ap 270 [.f 27,az (.f 39) (.h (ae 1)),az (.f 5) (.h (ae 1)),az (.f 5) (.h (ae 2))])]⟩),
(274,⟨[27],[],[eW (aX (.f 27) 1) (.h (ae 4)) (ap 273 [])]⟩),
(277,⟨[74,4],[],[bg 48 (az (.f 74) (.h (ae 0))),eW (.f 74) (.h (ae 0)) (.w b9 (.f 48) (.h (ae 1))),bg 75 (.l (.k eU (.f 48) (ap 10 [az (.f 74) (.h (ae 1))])) (az (az (.f 74) (.h (ae 1))) (.f 48)) (.w b9 (.w oo (.f 48) (.h (ae 7))) (.h (ae 2)))),.h (.w .Mod (.f 75) (.f 4))]⟩),
(278,⟨[76],[],[.j 13 [],.f (.a 77) (ap 11 [.h (ae 8)]) [bg 73 (az (dn [.h (ae 6),.h (ae 6),.h (ae 7),.h (ae (-1)),.h (ae (-1)),.h (ae (-1)),.h (ae (-1)),.h (ae (-1))]) (.f 77)),.l (cd [.k c7 (.f 77) (.f 76),.k m' (.f 73) (.f 76)]) [.d (.u (.f 13) 3 [.f 77])] []],.h (.f 13)]⟩),
(279,⟨[74],[],[.h (ap 278 [dY (ap 277 [.f 74,.h (ae 8)]) (.a 78) (ap 11 [.w b9 (.h (ae 1)) (ap 277 [.f 74,.h (ae 3)])]) []])]⟩),
(280,⟨[74,79],[],[.l (.f 79) [bg 81 (ap 277 [.f 74,.h (ae 4)]),bg 84 (ap 277 [.f 74,.h (ae 6)]),.j 80 [],.f (.a 85) (az (dn [dn [.h (ae 5),.h (ae 5)],dn [.h (ae 5),.h (ae 6)],dn [.h (ae 3),.h (ae 3),.h (ae 3)],dn [.h (ae 3),.h (ae 3),.h (ae 2)]]) (.f 81)) [.d (.u (.f 80) 3 [ap 278 [dY (.w .Mod (.w b9 (.f 84) (.f 78)) (.h (ae 6))) (.a 78) (ap 11 [.f 85]) []]])],.h (.j [.f 80,dn [],dn [],dn [],ap 277 [.f 74,.h (ae 2)]])] [],.g 80 (ap 279 [.f 74]) (.a 78) (ap 11 [.w b9 (.h (ae 1)) (ap 277 [.f 74,.h (ae 3)])]) [],bg 81 (ap 277 [.f 74,.h (ae 6)]),bg 82 (.l (.k a6 (.f 81) (.h (ae 3))) (dn [ap 279 [.f 74]]) (dn [])),bg 66 (.l (.k d4 (.f 81) (.h (ae 3))) (dn [ap 279 [.f 74]]) (dn [])),bg 83 (.l (.k a6 (.f 81) (.h (ae 5))) (dn [ap 279 [.f 74]]) (dn [])),.h (.j [.f 80,.f 82,.f 66,.f 83,.w ut (ap 277 [.f 74,.h (ae 3)]) (.h (ae 2))])]⟩),
(281,⟨[20],[],[.h (.w b9 (.w b9 (.w b9 (az (.f 20) (.h (ae 0))) (az (.f 20) (.h (ae 1)))) (az (.f 20) (.h (ae 2)))) (az (.f 20) (.h (ae 3))))]⟩),
(282,⟨[20,11,76],[],[.j 86 [],bg 48 (.h (ae 0)),.f (.a 87) (.n (.f 20) ah (ac (.h (ae 4)))) [.j 32 [],.f (.a 88) (.f 87) [.d (.u (.f 32) 3 [.l (.k a6 (.f 48) (.f 11)) (.f 76) (.f 88)]),.B 48 b9 (.h (ae 1))],.d (.u (.f 86) 3 [.f 32])],.h (.j [az (.f 86) (.h (ae 0)),az (.f 86) (.h (ae 1)),az (.f 86) (.h (ae 2)),az (.f 86) (.h (ae 3)),az (.f 20) (.h (ae 4))])]⟩),
(283,⟨[74,20],[],[.j 23 [.f 20],bg 89 (ap 10 [ap 281 [.f 20]]),bg 84 (ap 277 [.f 74,.f 89]),.f (.a 78) (ap 11 [.w b9 (.h (ae 1)) (ap 277 [.f 74,.w b9 (.f 89) (.h (ae 1))])]) [bg 11 (.w .Mod (.w b9 (.f 84) (.f 78)) (.f 89)),bg 76 (az (ap 281 [az (.f 23) (.h (ae (-1)))]) (.f 11)),.l (.k d4 (ap 10 [.f 76]) (.h (ae 1))) [bg 90 (.w b9 (.h (ae 1)) (ap 277 [.f 74,.w fU (ap 10 [.f 76]) (.h (ae 1))])),bg 12 (.u (.f 23) 2 []),.d (.u (.f 23) 3 [ap 282 [.f 12,.f 11,.n (.f 76) ah (ac (.f 90))]]),.d (.u (.f 23) 3 [ap 282 [.f 12,.f 11,.n (.f 76) (ac (.f 90)) ah]])] []],.h (.f 23)]⟩),
(284,⟨[74,20],[],[kn [80,82,66,83,7] (.f 20),bg 81 (ap 277 [.f 74,.h (ae 13)]),bg 11 (ap 277 [.f 74,ap 10 [ap 281 [.f 20]]]),bg 76 (az (ap 281 [.f 20]) (.f 11)),.l (.k a6 (.f 81) (.h (ae 0))) [.h (ap 282 [.f 20,.f 11,.l (.k d4 (ap 10 [.f 76]) (.h (ae 1))) (.n (.f 76) ah (ac (.h (ae (-1))))) (.f 76)])] [],.l (.k a6 (.f 81) (.h (ae 1))) [.h (ap 282 [.f 20,.f 11,ap 278 [.w b9 (.f 76) (dn [ap 277 [.f 74,.h (ae 8)]])]])] [],.l (cV [.k a6 (.f 81) (.h (ae 2)),.k a6 (.f 81) (.h (ae 8))]) [.h (ap 282 [.f 20,.f 11,.l (.k a6 (.f 81) (.h (ae 2))) (.n (.f 76) ah (ac (.h (ae 1)))) (.n (.f 76) (ac (.h (ae (-1)))) ah)])] [],.l (.k a6 (.f 81) (.h (ae 3))) [.h (.j [.f 80,.f 82,.f 66,.f 83,.w fU (.h (ae 1)) (.f 7)])] [],.l (cd [.k a6 (.f 81) (.h (ae 4)),.k a6 (ap 10 [.f 83]) (.h (ae 0)),.k a6 (ap 10 [.f 82]) (.h (ae 0))]) [.h (.j [.n (.f 80) ah (ac (.h (ae (-1)))),.n (.f 80) (ac (.h (ae (-1)))) ah,.f 66,.f 83,.f 7])] [],.l (cd [.k a6 (.f 81) (.h (ae 5)),.k a6 (ap 10 [.f 83]) (.h (ae 0)),.k a6 (ap 10 [.f 66]) (.h (ae 0))]) [.h (.j [.f 80,.w b9 (.f 82) (dn [.f 76]),.f 66,.f 83,.f 7])] [],.l (.k a6 (.f 81) (.h (ae 6))) [.h (.j [.w b9 (.f 80) (.f 83),.f 82,.l (.k d4 (ap 10 [.f 66]) (.h (ae 0))) (dn []) (dn [.f 76]),dn [],.f 7])] [],.l (.k a6 (.f 81) (.h (ae 7))) [.j 17 [],.f (.a 88) (ap 281 [.f 20]) [bg 17 (.w b9 (.f 17) (.f 88))],.h (.j [dn [],dn [],dn [ap 278 [.f 17]],dn [],.f 7])] [],.h (.f 20)]⟩),
(285,⟨[76],[],[bg 17 (.h (ae 0)),.f (.a 77) (.f 76) [.B 17 iw (az (.h (.j [ae 1,ae 2,ae 8,ae 32,ae 64,ae 128,ae 7,ae 24])) (.f 77))],.h (.f 17)]⟩),
(286,⟨[20],[],[.g 86 (dY (ap 285 [.f 88]) (.a 88) (.f 87) []) (.a 87) (.n (.f 20) ah (ac (.h (ae 4)))) [],.h (.j [az (.f 86) (.h (ae 0)),dY (.w iw (.f 91) (.h (ae 256))) (.a 91) (az (.f 86) (.h (ae 1))) [],az (.f 86) (.h (ae 2)),az (.f 86) (.h (ae 3)),az (.f 20) (.h (ae 4))])]⟩),
(287,⟨[92,65],[],[kn [80,82,66,83,7] (.f 92),bg 49 (.w fU (.w fU (.f 65) (ap 10 [.f 80])) (ap 10 [.f 83])),.l (cV [.k eU (.f 49) (.h (ae 0)),cd [.k d4 (.f 49) (ap 10 [.f 82]),.k a6 (ap 10 [.f 66]) (.h (ae 0))]]) [.h (dn [])] [],.h (.w b9 (.w b9 (.w b9 (.f 80) (.n (.f 82) ah (ac (.f 49)))) (.w oo (.f 66) (.w fU (.f 49) (ap 10 [.f 82])))) (.f 83))]⟩),
(288,⟨[93,94],[],[.l (.k d4 (az (.f 93) (.h (ae 4))) (az (.f 94) (.h (ae 4)))) [.h (.h (aA ai))] [],bg 24 (.w b9 (.w b9 (.h (ae 1)) (ap 13 [.w b9 (ap 10 [az (.f 93) (.h (ae 0))]) (ap 10 [az (.f 93) (.h (ae 1))]),.w b9 (ap 10 [az (.f 94) (.h (ae 0))]) (ap 10 [az (.f 94) (.h (ae 1))])])) (ap 13 [ap 10 [az (.f 93) (.h (ae 3))],ap 10 [az (.f 94) (.h (ae 3))]])),.f (.a 65) (ap 11 [.h (ae 1),.w b9 (.f 24) (.h (ae 1))]) [bg 68 (ap 287 [.f 93,.f 65]),bg 69 (ap 287 [.f 94,.f 65]),.l (cd [.k d4 (ap 10 [.f 68]) (.h (ae 0)),.k a6 (ap 10 [.f 69]) (.h (ae 0))]) [.h (.h (aA ai))] [],.f (.a 11) (ap 11 [ap 10 [.f 68]]) [.l (.k eG (.w iw (az (.f 68) (.f 11)) (az (.f 69) (.f 11))) (az (.f 69) (.f 11))) [.h (.h (aA ai))] []]],.h (.h (aA af))]⟩),
(289,⟨[92,11],[],[bg 35 (.w b9 (az (.f 92) (.h (ae 0))) (az (.f 92) (.h (ae 1)))),.l (.k eU (.f 11) (ap 10 [.f 35])) [.h (az (.f 35) (.f 11))] [],bg 17 (.h (ae 0)),.f (.a 91) (.w b9 (az (.f 92) (.h (ae 2))) (az (.f 92) (.h (ae 3)))) [.B 17 iw (.f 91)],.h (.f 17)]⟩),
(290,⟨[20,63],[],[.j 95 [ap 286 [.f 20]],.f (.a 11) (ap 11 [ap 10 [az (.f 20) (.h (ae 0))]]) [.j 46 [],.f (.a 26) (.f 63) [bg 17 (ap 289 [.f 26,.f 11]),.l (cd [.k d4 (.f 17) (.h (ae 0)),.k m' (.f 17) (.f 46)]) [.d (.u (.f 46) 3 [.f 17])] []],.g 59 (.f 17) (.a 17) (.f 46) [.k a6 (.w uA (.f 17) (.h (ae 20))) (.h (ae 0))],.l (cd [.k d4 (ap 10 [az (az (.f 20) (.h (ae 0))) (.f 11)]) (.h (ae 1)),.k d4 (ap 10 [.f 46]) (.h (ae 1)),.k d4 (ap 10 [.f 59]) (.h (ae 0))]) [.j 60 [],.f (.b [80,82,66,83,7]) (.f 95) [.f (.a 77) (az (az (.f 20) (.h (ae 0))) (.f 11)) [.d (.u (.f 60) 3 [.j [.w b9 (.w b9 (.n (.f 80) ah (ac (.f 11))) (dn [az (.h (.j [ae 1,ae 2,ae 8,ae 32,ae 64,ae 128,ae 7,ae 24])) (.f 77)])) (.n (.f 80) (ac (.w b9 (.f 11) (.h (ae 1)))) ah),.f 82,.f 66,.f 83,.f 7]])]],bg 95 (.f 60)] []],.h (.l (.s eU eU (.h (ae 1)) (ap 10 [.f 95]) (.h (ae 26))) (.f 95) (dn []))]⟩),
(291,⟨[92,63],[],[.h (dY (.f 26) (.a 26) (.f 63) [ap 288 [.f 92,.f 26]])]⟩),
(292,⟨[1,76],[],[.j 32 [],.f (.a 77) (.f 76) [.l (.k eU (.f 77) (.h (ae 2))) [.d (.u (.f 32) 3 [ap 158 [.f 1,.f 77]])] [.l (.k a6 (.f 77) (.h (ae 2))) [.d (.u (.f 32) 3 [ap 157 [.f 1,.h (bP "a")]])] [.l (.k eU (.f 77) (.h (ae 5))) [.d (.u (.f 32) 3 [ap 159 [.f 1,.w fU (.h (ae 4)) (.f 77)]])] [.d (.u (.f 32) 3 [az (dn [.h (ae 5),.h (ae 7),.h (ae 6)]) (.w fU (.f 77) (.h (ae 5)))])]]]],.h (ap 171 [.f 1,.f 32])]⟩),
(293,⟨[1,20],[],[kn [80,82,66,83,7] (.f 20),.l (cd [.k a6 (ap 10 [.f 66]) (.h (ae 1)),.k a6 (ap 10 [ap 281 [.f 20]]) (.h (ae 1))]) [.h (ap 160 [.f 1,ap 292 [.f 1,az (.f 66) (.h (ae 0))],.f 7])] [],.g 8 (.j [ap 292 [.f 1,.f 88],.h (ae 0)]) (.a 88) (.f 80) [],bg 8 (.w b9 (.f 8) (dY (.j [ap 292 [.f 1,.f 88],.h (ae 1)]) (.a 88) (.f 82) [])),bg 8 (.w b9 (.f 8) (dY (.j [ap 292 [.f 1,.f 88],.h (ae 2)]) (.a 88) (.f 66) [])),.h (ap 164 [.f 1,.w b9 (.f 8) (dY (.j [ap 292 [.f 1,.f 88],.h (ae 0)]) (.a 88) (.f 83) []),.f 7])]⟩),
(294,⟨[74,20],[],[.j 23 [],.f (.a 26) (ap 283 [.f 74,.f 20]) [.l (.k d4 (ap 277 [.f 74,.h (ae 6)]) (.h (ae 0))) [.d (.u (.f 23) 3 [ap 284 [.f 74,.f 26]])] []],.l (cV [.k a6 (ap 277 [.f 74,.h (ae 4)]) (.h (ae 0)),.k a6 (ap 10 [.f 23]) (.h (ae 0))]) [.d (.u (.f 23) 3 [ap 280 [.f 74,.h (aA ai)]])] [],.h (.f 23)]⟩),
(295,⟨[96],[],[.g 97 (.f 4) (.a 4) (.n (.f 96) ah (ac (.h (ae 40)))) [],.j 74 [.h (ae 0),.f 97],bg 79 (cd [.k a6 (ap 277 [.f 74,.h (ae 8)]) (.h (ae 7)),.k d4 (ap 10 [.f 97]) (.h (ae 12))]),bg 20 (ap 280 [.f 74,.f 79]),bg 18 (ap 294 [.f 74,.f 20]),bg 1 (ap 156 []),.g 32 (ap 293 [.f 1,.f 26]) (.a 26) (.f 18) [],.l (.k a6 (ap 277 [.f 74,.h (ae 3)]) (.h (ae 0))) [.d (.u (.f 32) 3 [ap 292 [.f 1,dn [ap 277 [.f 74,.h (ae 8)]]]])] [],bg 29 (ap 293 [.f 1,.f 20]),bg 19 (ap 171 [.f 1,.f 32]),.g 63 (ap 286 [.f 26]) (.a 26) (.f 18) [],bg 95 (ap 290 [.f 20,.f 63]),bg 62 (.k d4 (ap 10 [.f 95]) (.h (ae 0))),.f (.a 98) (.f 95) [.l (.k a6 (ap 10 [ap 291 [.f 98,.f 63]]) (.h (ae 0))) [bg 62 (.h (aA ai))] []],bg 27 (ap 198 [ap 232 [.f 1],.h (ae 1)]),.d (ap 274 [.f 27]),.d (ap 259 [.f 27]),.d (ap 258 [.f 27]),.l (.k eU (ap 10 [.f 95]) (.h (ae 13))) [bg 99 (ap 291 [ap 286 [.f 20],.f 63]),.g 38 (.f 26) (.a 26) (.f 99) [cV [.k a6 (az (.f 26) (.h (ae 4))) (.h (ae 1)),.k a6 (.f 26) (ap 286 [.f 20])]],.l (.k eG (.u (.f 27) 25 [.f 29,.f 19]) (cV [.k d4 (ap 10 [.f 99]) (.h (ae 0)),.f 62])) [.h (.h (aA ai))] [],bg 40 (cd [.k a6 (ap 10 [.f 38]) (.h (ae 0)),cV [.k d4 (ap 10 [.f 99]) (.h (ae 0)),cd [.f 62,.k a6 (az (.f 20) (.h (ae 4))) (.h (ae 0))]]]),.l (.k eG (.u (aX (.f 27) 14) 31 []) (.l (.f 40) (dn [.h (ae 3)]) (dn []))) [.h (.h (aA ai))] []] [],eV (.f 27) 10 (.h (aA ai)),.g 23 (.f 26) (.a 26) (ap 165 [.f 1,.f 19]) [],.d (.u (.f 23) 6 []),.h (.k a6 (ap 256 [.f 27,.f 29,.f 23]) (.f 62))]⟩),
(1360,⟨[100],[],[.k (.f 100) 0 []]⟩),
(1361,⟨[100,101,48],[],[.d (.u (aX (.f 100) 0) 3 [.j [.f 101,.f 48]])]⟩),
(1362,⟨[100],[],[.p 10,.f (.b [101,48]) (aX (.f 100) 0) [eW (.f 10) (.f 101) (.f 48)],.h (ap 12 [.f 10])]⟩),
(3240,⟨[100],[],[.k (.f 100) 0 [],.n (.f 100) 8,.k (.f 100) 36 [.h a4],.k (.f 100) 37 [],.k (.f 100) 38 [],.k (.f 100) 39 [],.n (.f 100) 40,.n (.f 100) 41,eV (.f 100) 42 (.h (ae 0)),eV (.f 100) 43 (.h (ae 0)),.f (.a 20) (.h (.j [.j [ae 1,bP "any"],.j [ae 1,bP "unknown"],.j [ae 1,bP "never"],.j [ae 1,bP "void"],.j [ae 1,bP "undefined"],.j [ae 1,bP "null"],.j [ae 1,bP "string"],.j [ae 1,bP "number"],.j [ae 2,ae 0,ae 0],.j [ae 2,ae 1,ae 0],.j [ae 1,bP "object"],.j [ae 8,.j [],.j [],.j [],.j [],.j [],ae 0],.j [ae 6,.j [ae 8,ae 9]],.j [ae 1,bP "error"],.j [ae 2,ae 0,ae 1],.j [ae 2,ae 1,ae 1]])) [.d (.u (.f 100) 7 [.f 20])]]⟩),
(3242,⟨[100,20],[],[.l (.k c7 (.f 20) (aX (.f 100) 8)) [.h (az (aX (.f 100) 8) (.f 20))] [],bg 19 (ap 10 [aX (.f 100) 0]),.d (.u (aX (.f 100) 0) 3 [.f 20]),eW (aX (.f 100) 8) (.f 20) (.f 19),.h (.f 19)]⟩),
(4920,⟨[100,34,31],[],[eV (.f 100) 11 (.f 34),eV (.f 100) 13 (.f 31),.n (.f 100) 1,.n (.f 100) 16,.n (.f 100) 21,.k (.f 100) 15 [],.k (.f 100) 48 [],eV (.f 100) 20 (.h (ae 0)),eV (.f 100) 19 (.h (ae 0)),eV (.f 100) 14 (ap 109 []),eV (.f 100) 10 (.h (aA af)),eV (.f 100) 12 (.h a4),eV (.f 100) 49 (.h (bP "")),eV (.f 100) 50 (.h (ae 0))]⟩),
(4921,⟨[100,29,19],[],[.h (ap 204 [.f 100,.f 29,.f 19])]⟩),
(4922,⟨[100,101],[],[.l (aX (.f 100) 10) [.d (.u (aX (.f 100) 14) 7 [.f 101,aX (.f 100) 50])] []]⟩),
(4923,⟨[100,29,19],[],[.h (cV [.k a6 (.f 29) (.f 19),.u (ap 201 [.f 100]) 25 [.f 29,.f 19]])]⟩),
(4924,⟨[100],[],[.h (.j [ap 10 [aX (aX (.f 100) 14) 0],ap 10 [aX (.f 100) 15]])]⟩),
(4925,⟨[100,33],[],[.d (ap 202 [.f 100,.f 33])]⟩),
(6280,⟨[100,1],[],[eV (.f 100) 18 (.f 1),eV (.f 100) 20 (.h (ae 0)),eV (.f 100) 52 (.h (ae 200)),eV (.f 100) 53 (.h (ae 40)),eV (.f 100) 54 (.h a4)]⟩),
(6281,⟨[100,19],[],[.h (.f 19)]⟩),
(6285,⟨[100,19],[],[.h (.f 19)]⟩),
(6295,⟨[100,19,50],[],[.h (.h a4)]⟩),
(7080,⟨[100,27,23,50],[],[.h (ap 249 [aX (.f 27) 11,.f 23,.f 50])]⟩),
(7280,⟨[100,27,29,19],[],[.h (ap 256 [.f 27,.f 29,ap 165 [aX (aX (.f 27) 11) 18,.f 19]])]⟩),
(7920,⟨[100,27,29,19],[],[.h (ap 272 [.f 27,.f 29,.f 19])]⟩)]
noncomputable def pU (g:Nat):Option i5:=v8.lookup g
noncomputable abbrev bw:ha:=⟨Hd⟩
noncomputable abbrev aZ:Nat→kw:=oO bw pU
noncomputable abbrev aE (k:Nat):=yW bw pU k
noncomputable def nP (g:Nat):List eo:=match pU g with|some q=>q.body|none=>[]
noncomputable def AA:List eo→List Nat→eo
 |_,[]=>.v
 |l,[i]=>l[i]?.getD .v
 |l,i::p=>match l[i]?,p with
  |some (.f _ _ b),p=>AA b p
  |some (.m _ b),p=>AA b p
  |some (.l _ a _),0::p=>AA a p
  |some (.l _ _ b),_::p=>AA b p
  |_,_=>.v
noncomputable def qe:List eo→List Nat→Nat
 |_,[]=>60
 |_,[_]=>59
 |l,i::p=>match l[i]?,p with
  |some (.f _ _ b),p=>qe b p-1
  |some (.m _ b),p=>qe b p-1
  |some (.l _ a _),0::p=>qe a p-1
  |some (.l _ _ b),_::p=>qe b p-1
  |_,_=>0
structure xj where
 c:Option bt
 t:e4
 body:List eo
noncomputable def G8:eo→Option xj
 |.f t _ b=>ac ⟨ah,t,b⟩
 |.m c b=>ac ⟨ac c,.b [],b⟩
 |_=>ah
noncomputable def F4 (k:Nat) (b:Option (Nat×Nat)) (ds:List aj) (L:au) (Y:ar) (q:xj):kS:=.a k ⟨q.body,q.c,q.t,b,ds,L,Y⟩
noncomputable def GE (k:Nat) (d:aj) (L:au) (Y:ar) (q:xj):aT:=match q.c with
 |none=>uZ (e6 bw k) q.body q.t d L Y
 |some c=>sR (e6 bw k) c q.body L Y
noncomputable def mw (g:Nat) (p:List Nat):xj:=(G8 (AA (nP g) p)).getD ⟨ah,.b [],[]⟩
noncomputable def dR (g:Nat) (p:List Nat) (b:Option (Nat×Nat)) (ds:List aj) (L:au) (Y:ar):kS:=F4 (qe (nP g) p) b ds L Y (mw g p)
noncomputable def qa (g:Nat) (p:List Nat) (d:aj) (L:au) (Y:ar):aT:=GE (qe (nP g) p) d L Y (mw g p)
structure vS where
 a:bt
 b:List bt
 t:e4
mutual
noncomputable def pd:bt→List vS
 |.comp a t I f=>⟨a,f,t⟩::(pd I++(pd a++S' f))
 |.w _ a b=>pd a++pd b
 |.q a=>pd a
 |.k _ a b=>pd a++pd b
 |.and E=>S' E
 |.or E=>S' E
 |.l c a b=>pd c++(pd a++pd b)
 |.j E=>S' E
 |.list E=>S' E
 |.sub a i=>pd a++pd i
 |.call _ E=>S' E
 |.u a _ E=>pd a++S' E
 |_=>[]
noncomputable def S':List bt→List vS
 |[]=>[]
 |e::r=>pd e++S' r
end
noncomputable def Qq:eo→List vS
 |.g _ a t i f=>pd (dY a t i f)
 |.set _ e=>pd e
 |.h e=>pd e
 |.d e=>pd e
 |.l c _ _=>pd c
 |.f _ i _=>pd i
 |_=>[]
noncomputable def oW (g:Nat) (p:List Nat) (i:Nat):vS:=(Qq (AA (nP g) p))[i]?.getD ⟨.v,[],.b []⟩
noncomputable def ep (g:Nat) (p:List Nat) (i k:Nat) (ds:List aj) (L:au) (Y:ar):kS:=rG k ⟨(oW g p i).a,(oW g p i).b,(oW g p i).t,ds,L,Y⟩
noncomputable def kV (g:Nat) (p:List Nat) (i k:Nat) (d:aj) (L:au) (Y:ar):aT:=r' (e6 bw k) (oW g p i).a (oW g p i).t (oW g p i).b d L Y
noncomputable def he (L:au):List Nat:=L.map (·.1)
section
abbrev fc (n g:Nat) (p:List Nat) (ns:List Nat) (d:aj) (L:au) (Y:ar) (f:cR) (M:au) (st':ar):Prop:=mC (dy bw (aZ n) (qe (nP g) p)) ns (qa g p d L Y) f M st'
noncomputable def ky (g:Nat) (p:List Nat):Bool:=(mw g p).c.isNone
theorem hr {a k:Type} (p:List Nat) (f:a→aj) (l:List a) (F:List a→k→au) (S:List a→k→ar) (I:List a→k→Prop) (X:k) (i:I [] X) (o:ky g p=af)
  (s:∀d j r1 x,l=d++j::r1→I d x→∃m r,I (d++[j]) m∧(r=a'∨r=iz)∧fc n g p (he (F [] X)) (f j) (F d x) (S d x) r (F (d++[j]) m) (S (d++[j]) m)∧gy b (l.map f) (S (d++[j]) m)=af):
  ∃x,I l x∧ca bw (aZ n) (dR g p b (l.map f) (F [] X) (S [] X)) a' (F l x) (S l x):=by
 unfold ky at o;unfold fc qa at s;unfold dR;generalize mw g p=q at o s;obtain⟨c,t,B⟩:=q;cases c with
 |some _=>exact hU o
 |none=>
  have w:=Kk (Z:=fun q=>∃x,I l x∧q=(a',F l x,S l x)) (tail:=[]) (fun d j r1 x e h=>s d j r1 x e h) (fun x h=>⟨x,h,rfl⟩) l [] X rfl i;rw[c8] at w;exact ay (wQ w) fun q h w=>h.elim fun x h=>⟨x,h.1,(h.2▸w:)⟩
theorem qt {o k:Type} (p:List Nat) (f:o→aj) (l:List o) (s:k→o→k) (F:k→au) (S:k→ar) (I:k→Prop) (X:k) (i:I X) (t:ky g p=af)
  (u:∀x,I x→∀j∈l,I (s x j)∧∃m,(m=a'∨m=iz)∧fc n g p (he (F X)) (f j) (F x) (S x) m (F (s x j)) (S (s x j))∧gy b (l.map f) (S (s x j))=af):
  I (l.foldl s X)∧ca bw (aZ n) (dR g p b (l.map f) (F X) (S X)) a' (F (l.foldl s X)) (S (l.foldl s X)):=by
 obtain⟨x,⟨rfl,h⟩,w⟩:=hr p f l (fun _ x=>F x) (fun _ x=>S x) (fun d x=>x=d.foldl s X∧I x) X ⟨rfl,i⟩ t fun D j r x e h=>by
  obtain⟨a,m,b,c,q⟩:=u x h.2 j (eO e);exact⟨s x j,m,⟨by rw[rc,←h.1];rfl,a⟩,b,c,q⟩
 exact⟨h,w⟩
noncomputable def Ag (g:Nat) (p:List Nat):Bool:=(mw g p).c.isSome
theorem wG {a:Type} (p:List Nat) (F:a→au) (S:a→ar) (I:a→Prop) (e:a→Nat) (P:cR→au→ar→Prop) (X:a) (i:I X) (m:e X<pa) (j:Ag g p=af)
  (s:∀x,I x→(∃d f,I d∧e d<e x∧(f=a'∨f=iz)∧fc n g p (he (F X)) a4 (F x) (S x) f (F d) (S d))∨∃f M st',qZ f=af∧fc n g p (he (F X)) a4 (F x) (S x) f M st'∧P (qB f) M st'):
  ∃f M st',P f M st'∧ca bw (aZ n) (dR g p ah [] (F X) (S X)) f M st':=by
 unfold Ag at j;unfold fc qa at s;unfold dR;generalize mw g p=q at j s;obtain⟨c,t,b⟩:=q;cases c with
 |none=>exact hU j
 |some c=>exact ay (wQ (H1 (Z:=fun q=>P q.1 q.2.1 q.2.2) (fun x h=>s x h) pa X i m)) fun q h w=>⟨_,_,_,h,w⟩
theorem N0 {a b:Type} (p:List Nat) (i k:Nat) (f:a→aj) (l:List a) (V:List a→b→List aj) (F:List a→b→au) (S:List a→b→ar) (I:List a→b→Prop) (X:b) (e:I [] X) (v:V [] X=[])
  (s:∀d j r1 x,l=d++j::r1→I d x→∃c vs,I (d++[j]) c∧V (d++[j]) c=V d x++vs∧iS (dy bw (aZ n) k) (kV g p i k (f j) (F d x) (S d x)) vs (F (d++[j]) c) (S (d++[j]) c)):
  ∃x,I l x∧ca bw (aZ n) (ep g p i k (l.map f) (F [] X) (S [] X)) (.h (.c (V l x))) (F l x) (S l x):=ay (wQ (Fp (Z:=fun q=>∃x,I l x∧q=(.h (.c (V l x)),F l x,S l x)) (K:=fun vs L Y=>dV (.h (.c vs)) L Y) s l [] X rfl e fun y U m u=>⟨y,m,by rw[u,v];rfl⟩)) fun q h w=>h.elim fun x h=>⟨x,h.1,(h.2▸w:)⟩
theorem fM {a:Type} (p:List Nat) (i k:Nat) (f:a→aj) (l:List a) (V:a→List aj) (L:au) (Y:ar)
  (s:∀j∈l,iS (dy bw (aZ n) k) (kV g p i k (f j) L Y) (V j) L Y):
  ca bw (aZ n) (ep g p i k (l.map f) L Y) (.h (.c (l.flatMap V))) L Y:=by
 obtain⟨_,_,w⟩:=N0 p i k f l (fun d _=>d.flatMap V) (fun _ _=>L) (fun _ _=>Y) (fun _ _=>True) () trivial rfl fun D j r x e _=>
  ⟨(),V j,trivial,by simp,s j (eO e)⟩
 exact w
end
noncomputable abbrev ag (i:Nat):aj:=ae (i:Int)
noncomputable def c9 (R:List aj):List (aj×aj):=R.zipIdx.map fun p=>(p.1,ag p.2)
noncomputable def aF (R:List aj):oD:=⟨156,[(0,b1 (.c R)),(8,b1 (.e (c9 R))),(36,b1 (.c [a4])),(37,b1 (.c [])),(38,b1 (.c [])),(39,b1 (.c [])),(40,b1 (.e [])),(41,b1 (.e [])),(42,.l (ae 0)),(43,.l (ae 0))]⟩
noncomputable def dT:List aj:=match(lG.lookup (gp "FIRST_ROWS")) with|some (.j l)=>l|_=>[]
def lF (r:aj):Prop:=aj.key 8 r=af∧ja r=af
structure aW (R:List aj):Prop where
 nd:R.Nodup
 key:∀r∈R,lF r
 base:∃a,R=dT++a
theorem Qi:∀(l:List aj) (k:Nat),((l.zipIdx k).map fun p=>(p.1,ag p.2)).map (·.1)=l:=by
 intro l;induction l with
 |nil=>
  intro _;rfl
 |cons a r i=>
  intro k;simp only[R0,eE];rw[i]
theorem oz (R:List aj):(c9 R).map (·.1)=R:=Qi R 0
theorem xp (a:∀p∈s,∃n,aj.key n p.1=af):dA k s=af↔k∈s.map (·.1):=by
 induction s with
 |nil=>exact⟨fun h=>aR h cp,fun h=>nomatch h⟩
 |cons p r i=>
  obtain⟨x,v⟩:=p;refine ak u1 ?_;refine(a (x,v) kZ).elim fun n b=> ?_;rw[dK,i fun p c=>a p (je _ c),eE,eS,lw x k n b];exact or_congr_left eq_comm
theorem pV {a k:Int} (h:a=1∨a=2∨a=3∨a=4) (q:(k==1||(k==2||(k==3||k==4)))=ai):¬a=k:=fun e=>by subst e;rcases h with rfl|rfl|rfl|rfl<;>cases q
theorem Kj {l:List aj}:∀{j i:Nat},(∀r∈l,∃n,aj.key n r=af)→l.Nodup→l[i]? =ac k→f3 k ((l.zipIdx j).map fun p=>(p.1,ag p.2))=ac (ag (j+i)):=by
 induction l with
 |nil=>exact fun _ _ h=>iM h
 |cons a r I=>
  intro j i c b h;have b:=gn.mp b;refine(((c a (cU _)).elim fun n x=> ?_):(if aj.beq a k=af then ac (ag j) else f3 k ((r.zipIdx (j+1)).map fun p=>(p.1,ag p.2)))=_)
  induction i using ir with
  |zero=>exact aJ ((lw _ _ n x).mpr (bD h))
  |succ i=>rw[aL fun e=>b.1 (by rw[(lw a k n x).mp e];exact eR h),I (fun R d=>c R (e9 _ d)) b.2 h,ev,f_ 1 i]
theorem tJ:∀{s:List (aj×aj)},dA k s=ai→gd k v s=s++[(k,v)]:=by
 intro s;induction s with
 |nil=>
  intro _;rfl
 |cons X r i=>
  intro h;obtain⟨x,w⟩:=X;rw[u1,DI] at h;rw[uY,aL (by rw[h.1];decide),i h.2];rfl
theorem zC (R:List aj) (r:aj):c9 (R++[r])=c9 R++[(r,ag R.length)]:=by
 unfold c9;simp[List.zipIdx_append]
theorem CG (R:List aj):(c9 R).length=R.length:=by unfold c9;simp
theorem aW.keys (I:aW R):∀p∈c9 R,∃n,aj.key n p.1=true:=fun p h=>⟨8,(I.key p.1 (by rw[←oz R];exact cr.mpr (bd p h rfl))).1⟩
theorem aW.has (I:aW R) (h:r∈R):dA r (c9 R)=true:=by
 rw[xp I.keys,oz];exact h
theorem aW.hasnt (I:aW R) (h:r∉R):dA r (c9 R)=false:=by
 rw[←oz R,←xp I.keys] at h;simpa using h
theorem aW.kq (I:aW R) (a:lF r):cT r (c9 R)=true:=by
 unfold cT;rw[a.1,Ee];induction h:c9 R using cn with
 |nil=>dsimp only;rw[a.2,Bool.or_true]
 |cons p l=>
  obtain⟨x,v⟩:=p;have:x∈R:=by rw[←oz R,h];exact kZ
  dsimp only;rw[(I.key x this).2,a.2];simp
theorem aW.get (I:aW R) {t:Nat} (h:R[t]? =ac r):f3 r (c9 R)=ac (ag t):=by
 have:=Kj (j:=0) (fun r a=>⟨8,(I.key r a).1⟩) I.nd h;rwa[jI] at this
theorem dF (h:R[t]? =ac r):ez (.c R) (ag t)=ac r:=by
 have l:t<R.length:=by rcases hy.mp h with⟨h,_⟩;exact h
 show(i2 (t:Int) R.length).bind (fun j=>R[j]?)=_;unfold i2;rw[aJ (gG t),aJ (g5.mpr l)];show R[((t:Int)).toNat]? =_;rw[py,h]
section
noncomputable def cK.O {ds:List aj} (h:ds.length≤16777216):cK X:=.F (o:=pS (.c ds)) (v:=ag ds.length) (aJ h)
noncomputable def cK.p {ds:List aj} (e:ds.length=k) (h:k≤16777216):cK X:=.F (o:=pS (.c ds)) (v:=ag k) (by subst e;exact aJ h)
noncomputable def cK.ab {j:Nat} (h:j<i):cK X:=.z (o:=.k d4 (ag i) (ag j)) (v:=af) (by show ac (aM ((j:Int)<(i:Int)))=_;rw[cu (g5.mpr h)])
noncomputable def cK.W {j:Nat} (h:¬j<i):cK X:=.z (o:=.k d4 (ag i) (ag j)) (v:=ai) (by show ac (aM ((j:Int)<(i:Int)))=_;rw[cP (mt g5.mp h)])
noncomputable def cK.Q {j:Int} (h:i<j):cK X:=.z (o:=.k eU (ae i) (ae j)) (v:=af) (by show ac (aM (i<j))=_;rw[cu h])
noncomputable def cK.H {j:Int} (h:¬i<j):cK X:=.z (o:=.k eU (ae i) (ae j)) (v:=ai) (by show ac (aM (i<j))=_;rw[cP h])
noncomputable def cK.Z {j:Int} (h:i≤j):cK X:=.z (o:=.k oq (ae i) (ae j)) (v:=af) (by show ac (aM (i≤j))=_;rw[cu h])
noncomputable def cK.P {j:Int} (h:j<i):cK X:=.z (o:=.k d4 (ae i) (ae j)) (v:=af) (by show ac (aM (j<i))=_;rw[cu h])
noncomputable def cK.S {j:Int} (h:¬j<i):cK X:=.z (o:=.k d4 (ae i) (ae j)) (v:=ai) (by show ac (aM (j<i))=_;rw[cP h])
noncomputable def cK.N {j:Int} (h:j≤i):cK X:=.z (o:=.k jl (ae i) (ae j)) (v:=af) (by show ac (aM (j≤i))=_;rw[cu h])
noncomputable def cK.D {j:Int} (h:¬j≤i):cK X:=.z (o:=.k jl (ae i) (ae j)) (v:=ai) (by show ac (aM (j≤i))=_;rw[cP h])
noncomputable def cK.set (h:gT c i v=ac a):cK X:=.I (o:=ow c i v) (d:=a4) (v:=a) (by show(gT c i v).map _=_;rw[h];rfl)
noncomputable def cK.row {R:List aj} {t:Nat} (h:R[t]? =ac r):cK X:=.get (q:=.c R) (d:=ag t) (v:=r) (dF h)
end
theorem Pa (I:aW R) (h:R[t]? =ac row):aE 1 3242 [.l (an 0),.l row] (aF R::J) (ag t) [] (aF R::J):=yW.of _ _ fun n _=>by
 have m:=eR h;have k:=I.kq (I.key _ m);have a:cZ row (.e (c9 R))=ac true:=by show(if cT row (c9 R) then ac (dA row (c9 R)) else ah)=_;rw[aJ k,I.has m]
 have b:ez (.e (c9 R)) row=ac (ag t):=by show(if cT row (c9 R) then f3 row (c9 R) else ah)=_;rw[aJ k,I.get h]
 exact aw 0 [.has a,.get b]
theorem Of (I:aW R) (h:row∉R) (k:lF row) (l:R.length≤1000000):aE 1 3242 [.l (an 0),.l row] (aF R::J) (ag R.length) [] (aF (R++[row])::J):=yW.of _ _ fun n _=>by
 have q:=I.kq k;have a:cZ row (.e (c9 R))=ac false:=by show(if cT row (c9 R) then ac (dA row (c9 R)) else ah)=_;rw[aJ q,I.hasnt h]
 have b:fL 3 (.c R) [row]=ac (a4,.c (R++[row])):=aJ (l);have c:gT (.e (c9 R)) row (ag R.length)=ac (.e (c9 (R++[row]))):=by
  show(if cT row (c9 R)∧(c9 R).length≤b4 then _ else _)=_
  rw[aJ ⟨q,by rw[CG];exact l⟩,tJ (I.hasnt h),zC]
 exact aw 0 [.has a,.O (aD l rfl),.u b,.set c]
noncomputable def io:Nat→aj
 |0=>.j [ae 4,ae 0,ae 0]
 |1=>.j [ae 4,ae 1,ae 0]
 |2=>.j [ae 3,bP "a",ae 0]
 |3=>.j [ae 2,ae 1,ae 0]
 |4=>.j [ae 2,ae 0,ae 0]
 |5=>.j [ae 1,bP "null"]
 |6=>.j [ae 1,bP "number"]
 |7=>.j [ae 1,bP "string"]
 |_=>.j [ae 1,bP "undefined"]
noncomputable def i4:Nat→Int
 |0=>7
 |1=>7
 |2=>6
 |_=> -1
inductive ju:aj→Int→Prop
 |b (x:aj):ju (.j [.int 4,x,.int 0]) 7
 |str (x:aj):ju (.j [.int 3,x,.int 0]) 6
 |bool (x:aj):ju (.j [.int 2,x,.int 0]) (-1)
 |key (x:aj):ju (.j [.int 1,x]) (-1)
 |c (e r:aj):ju (.j [.int 11,e,r]) (-1)
 |j (e r:aj):ju (.j [.int 12,e,r]) (-1)
theorem sF:∀u,u<9→ju (io u) (i4 u)
 |0,_=>.b _|1,_=>.b _|2,_=>.str _|3,_=>.bool _|4,_=>.bool _|5,_=>.key _|6,_=>.key _|7,_=>.key _|8,_=>.key _
 |_+9,h=>aR h (e7 (dN (.g 1 (.n 9) (.a .b (.n 9))) rfl))
theorem Bt (h:ju row w):aE 1 166 [.l row] Y (ae w) [] Y:=yW.of _ _ fun n _=>by
 induction h
 ·exact aw 0 []
 ·exact aw 0 []
 ·exact aw 0 []
 ·exact aw 0 []
 ·exact aw 0 []
 ·exact aw 0 []
theorem O3 {R:List aj} {J:ar} (h:R[t]? =ac (.j [ae 6,p])) (a:t≠2):aE 1 165 [.l (an 0),.l (ag t)] (aF R::J) p [] (aF R::J):=yW.of _ _ fun n _=>by
 have b:¬(t:Int)=2:=fun e=>a (dh e);exact aw 0 [.C b,.row h]
theorem Jq (h:R[t]? =ac row) (a:ju row w) (b:t≠2):aE 1 165 [.l (an 0),.l (ag t)] (aF R::J) (.j [ag t]) [] (aF R::J):=yW.of _ _ fun n _=>by
 induction a<;>exact aw 0 [.C (fun e=>b (dh e)),.row h]
theorem MI (h:R[t]? =ac row) (a:ju row w):aE 1 167 [.l (an 0),.l (ag t)] (aF R::J) (ae (-1)) [] (aF R::J):=yW.of _ _ fun n _=>by
 induction a<;>exact aw 0 [.row h]
noncomputable def b8 (G:List Nat):List (aj×aj):=G.map fun i=>(ag i,ae 1)
theorem my:aj.beq (ag i) (ag j)=aM (i=j):=by
 show((i:Int)==(j:Int))=_;by_cases h:i=j
 ·subst h;simp
 ·rw[cP h];exact c5.mpr fun e=>h (dh e)
theorem P3:∀{G:List Nat},dA (ag i) (b8 G)=aM (i∈G):=by
 intro G;induction G with
 |nil=>
  exact(cP kh).symm
 |cons j G I=>
  show(aj.beq (ag j) (ag i)||dA (ag i) (b8 G))=_;rw[I,my];by_cases h:i=j
  ·subst h;simp
  ·have a:¬j=i:=fun e=>h e.symm;simp[h,a]
theorem M_:∀{G:List Nat},dA (ae (-1)) (b8 G)=false:=by
 intro G;induction G with
 |nil=>rfl
 |cons j G i=>
  show(((j:Int)==(-1))||dA (ae (-1)) (b8 G))=ai;rw[i,Sr];simp
theorem xM:cT (ae i) (b8 G)=true:=by
 unfold cT;induction G<;>rfl
theorem rU:cZ (ag i) (.e (b8 G))=ac (aM (i∈G)):=by
 show(if cT (ag i) (b8 G) then ac (dA (ag i) (b8 G)) else ah)=_;rw[aJ xM,P3]
theorem Ai:cZ (ae (-1)) (.e (b8 G))=ac false:=by
 show(if cT (ae (-1)) (b8 G) then ac (dA (ae (-1)) (b8 G)) else ah)=_;rw[aJ xM,M_]
noncomputable def gA (i:Nat) (G:List Nat):List Nat:=if i∈G then G else G++[i]
theorem OS:∀{G:List Nat},gd (ag i) (ae 1) (b8 G)=b8 (gA i G):=by
 intro G;induction G with
 |nil=>rfl
 |cons j G I=>
  show(if aj.beq (ag j) (ag i)=af then(ag j,ae 1)::b8 G else(ag j,ae 1)::gd (ag i) (ae 1) (b8 G))=_
  refine ak my (ak I ?_);unfold gA;by_cases h:j=i
  ·subst h;simp[b8]
  ·have a:¬i=j:=fun e=>h e.symm;by_cases m:i∈G
   ·simp[h,a,m,b8]
   ·simp[h,a,m,b8]
theorem pZ (h:G.length≤1000000):gT (.e (b8 G)) (ag i) (ae 1)=ac (.e (b8 (gA i G))):=by
 show(if cT (ag i) (b8 G)∧(b8 G).length≤b4 then _ else _)=_
 rw[aJ ⟨xM,by unfold b8;rw[aB];exact h⟩,OS]
theorem AN (h:i∈G):gA i G=G:=aJ h
theorem H_ (b: -1≤w):cZ (ae w) (.e (b8 G))=ac (aM (∃i∈G,(i:Int)=w)):=by
 by_cases h:w= -1
 ·subst h;rw[Ai,cP];rintro ⟨i,_,e⟩;cases e
 ·obtain⟨j,rfl⟩:=Ri (show 0≤w from Int.lt_iff_le_and_ne.mpr ⟨b,oh h⟩);have:=rU (i:=j) (G:=G);rw[show(ae (j:Int))=ag j from rfl,this];congr 1;by_cases a:j∈G
  ·rw[cu a,cu];exact bd j a rfl
  ·rw[cP a,cP];rintro ⟨i,c,e⟩;exact a (dh e▸c)
theorem JM (c:14∉G) (d:15∉G) (l:G.length≤1000000):aE 1 168 [.a (.e (b8 G))] Y a4 [.e (b8 G)] Y:=yW.of _ _ fun n _=>by
 have h (i:Nat):cZ (ag i) (.e (b8 G))=ac (aM (i∈G)):=rU;have c:cZ (ae 14) (.e (b8 G))=ac false:=by rw[←cP c];exact h 14
 have d:cZ (ae 15) (.e (b8 G))=ac false:=by rw[←cP d];exact h 15
 have a:=h 8;have b:=h 9;by_cases e:8∈G
 ·have a:=cu e▸a;by_cases E:9∈G
  ·have b:=cu E▸b;have s:gT (.e (b8 G)) (ae 8) (ae 1)=ac (.e (b8 G)):=by have:=pZ (i:=8) l;rwa[AN e] at this
   have S:gT (.e (b8 G)) (ae 9) (ae 1)=ac (.e (b8 G)):=by have:=pZ (i:=9) l;rwa[AN E] at this
   exact aw 0 [.has a,.has b,.set s,.set S]
  ·have b:=cP E▸b;exact aw 0 [.has a,.has b,.has d]
 ·have a:=cP e▸a;exact aw 0 [.has a,.has c]
theorem OK (d:0∉G) (e:13∉G) (f:1∉G):aE 1 170 [.a (.e (b8 G))] Y (ae (-1)) [.e (b8 G)] Y:=yW.of _ _ fun n _=>by
 have h (i:Nat) (a:i∉G):cZ (ag i) (.e (b8 G))=ac false:=by rw[←cP a];exact rU
 have l:=qt (n:=n) (g:=170) (b:=ah) [0] ag [0,13,1] (fun x _=>x) (fun _=>[(22,.a (.e (b8 G)))]) (fun _=>Y) (fun _=>True) () trivial rfl
  fun x _ j c=>⟨trivial,a',av rfl,by
   have a:j∉G:=fun h=>by
    simp only[eS,kh,or_false] at c;rcases c with rfl|rfl|rfl<;>contradiction
   exact bq 0 [.has (h j a)],rfl⟩
 exact aw 0 [.sub l.2]
theorem Ha (h:R[t]? =ac row) (a:ju row w):
  aE 2 169 [.l (an 0),.a (.e (b8 G)),.l (ag t)] (aF R::J) (aA (!aM (∃i∈G,(i:Int)=w))) [.e (b8 G)] (aF R::J):=yW.of _ _ fun n b=>by
 exact aw 0 [.call (MI (J:=J) h a n b),.has (Ai (G:=G)),.row h,.call (Bt (Y:=aF R::J) a n b),.has (H_ (G:=G) (w:=w) (by induction a<;>decide))]
def gY (R:List aj) (t:Nat) (O:List Nat):Prop:=t≠2∧((∃r w,R[t]? =ac r∧ju r w∧O=[t])∨(R[t]? =ac (.j [ae 6,.j (O.map ag)])∧2≤O.length))
theorem jx (h:gY R t O):aE 1 165 [.l (an 0),.l (ag t)] (aF R::J) (.j (O.map ag)) [] (aF R::J):=by
 obtain⟨b,⟨r,w,h,a,rfl⟩|⟨h,_⟩⟩:=h
 ·exact Jq h a b
 ·exact O3 h b
noncomputable def nQ (a:Nat):List Nat→List Nat
 |[]=>[a]
 |b::r=>if a≤b then a::b::r else b::nQ a r
noncomputable def kT:List Nat→List Nat
 |[]=>[]
 |a::r=>nQ a (kT r)
theorem Ju (a:Nat):∀l:List Nat,mM (a:Int) (l.map k6)=(nQ a l).map Int.ofNat:=by
 intro l;induction l with
 |nil=>rfl
 |cons b r i=>
  show(if(a:Int)≤(b:Int) then _ else(b:Int)::mM (a:Int) (r.map k6))=(if a≤b then a::b::r else b::nQ a r).map _
  by_cases h:a≤b
  ·rw[aJ h,aJ (gq.mpr h)];rfl
  ·rw[aL h,aL (fun z=>h (gq.mp z)),i];rfl
theorem Hi:∀l:List Nat,nB (l.map k6)=(kT l).map Int.ofNat:=by
 intro l;induction l with
 |nil=>rfl
 |cons a r i=>
  show mM (a:Int) (nB (r.map k6))=_;rw[i,Ju];rfl
theorem Cc:nQ a (b::r)=if a≤b then a::b::r else b::nQ a r:=rfl
theorem Cd (a:Nat):∀l:List Nat,(nQ a l).Perm (a::l):=by
 intro l;induction l with
 |nil=>exact rC _
 |cons b r i=>
  refine ak Cc ?_;split
  ·exact rC _
  ·exact((i).cons b).trans (.swap _ _ _)
theorem md:∀l:List Nat,(kT l).Perm l:=fun l=>l.rec (rC _) fun a r i=>(Cd a _).trans ((i).cons a)
theorem F7:∀{l:List Nat},l.Pairwise (·≤·)→(nQ a l).Pairwise (·≤·):=by
 intro l;induction l with
 |nil=>
  intro _;exact Q_ _ _
 |cons b r i=>
  intro h;obtain⟨e,f⟩:=pr.mp h;refine ak Cc ?_;split
  ·rename_i d;exact pr.mpr ⟨fun x c=>by
    rcases eS.mp c with rfl|c
    ·exact d
    ·exact Nat.le_trans d (e x c),h⟩
  ·rename_i d;refine pr.mpr ⟨fun x c=> ?_,i f⟩;rcases eS.mp ((Cd a r).mem_iff.mp c) with rfl|c
   ·exact cD (.c 1 (.a .b .n1) .f (.g 1 .b .f)) rfl (Nat.lt_of_not_le d)
   ·exact e x c
theorem IP:∀l:List Nat,(kT l).Pairwise (·≤·):=fun l=>l.rec h7 fun a r i=>F7 (i)
noncomputable def du (H:List (Nat×List Nat)) (G:List Nat):List Nat:=H.foldl (fun G p=>p.2.foldl (fun G i=>gA i G) G) G
theorem qW:j∈gA i G↔j=i∨j∈G:=by
 unfold gA;split
 ·rename_i h;exact⟨aI,fun a=>a.elim (fun e=>e▸h) id⟩
 ·simp[or_comm]
theorem vO (h:G.Nodup):(gA i G).Nodup:=by
 unfold gA;split
 ·exact h
 ·rename_i c;exact ke.mpr ⟨h,by simp,fun a d b f e=>c (by rw[bW.mp f] at e;exact e▸d)⟩
theorem KC:∀{l G:List Nat},j∈l.foldl (fun G i=>gA i G) G↔j∈l∨j∈G:=by
 intro l;induction l with
 |nil=>
  intro _;simp
 |cons i l I=>
  intro G;rw[t8,I,qW,eS,or_assoc,or_left_comm]
theorem J2:∀{l G:List Nat},G.Nodup→(l.foldl (fun G i=>gA i G) G).Nodup
 |[],_,h=>h
 |i::l,G,h=>J2 (l:=l) (vO h)
theorem r3:∀{H:List (Nat×List Nat)} {G:List Nat},j∈du H G↔(∃p∈H,j∈p.2)∨j∈G:=by
 intro H;induction H with
 |nil=>
  intro _;simp[du]
 |cons p H I=>
  intro G;show j∈du H (p.2.foldl (fun G i=>gA i G) G)↔_;rw[I,KC];constructor
  ·rintro (⟨q,a,b⟩|h|h)
   ·exact av (bd q (je _ a) b)
   ·exact av (bd p kZ h)
   ·exact aI h
  ·rintro (⟨q,a,b⟩|h)
   ·rcases eS.mp a with rfl|a
    ·exact .inr (.inl b)
    ·exact .inl (bd q a b)
   ·exact .inr (.inr h)
theorem yR:∀{H:List (Nat×List Nat)} {G:List Nat},G.Nodup→(du H G).Nodup
 |[],_,h=>h
 |p::H,G,h=>yR (H:=H) (J2 h)
noncomputable def AY:aj→Int
 |.j (.int 3::_)=>6
 |.j (.int 4::_)=>7
 |_=> -1
theorem ju.wh (h:ju row w):w=AY row:=by induction h<;>rfl
noncomputable def mv (R:List aj) (i:Nat):Int:=AY ((R[i]?).getD a4)
noncomputable def fO (R:List aj) (G:List Nat):List Nat:=(kT G).filter fun i=> !aM (∃j∈G,(j:Int)=mv R i)
structure sJ (R:List aj) (i:Nat):Prop where
 row:∃row w,R[i]? =ac row∧ju row w
 q:i≠0∧i≠1∧i≠13∧i≠14∧i≠15
theorem Ka:∀G:List Nat,tL ((b8 G).map (·.1))=ac (G.map k6):=by
 intro G;induction G with
 |nil=>rfl
 |cons i G I=>
  refine((ak (I) ?_):(tL ((b8 G).map (·.1))).map _=_);rfl
theorem Co (G:List Nat):(b8 G).length=G.length:=by unfold b8;rw[aB]
theorem nI {f:b→β}:∀l:List b,l.flatMap (fun j=>if p j then[f j] else[])=(l.filter p).map f:=by
 intro l;induction l with
 |nil=>rfl
 |cons a r i=>
  rw[D0,rh,i];cases p a<;>rfl
theorem aW.snoc (I:aW R) (m:row∉R) (k:lF row):aW (R++[row]):=by
 refine I.base.elim fun r e=> ?_;exact⟨ke.mpr ⟨I.nd,by simp,fun x a y b e=>m (by rw[bW.mp b] at e;exact e▸a)⟩,fun x a=>by
  rcases dD.mp a with h|h
  ·exact I.key x h
  ·rw[List.mem_singleton.mp h];exact k,⟨r++[row],by rw[e,List.append_assoc]⟩⟩
theorem AP (I:aW R) (k:lF row) (l:R.length≤1000000):∃t r,aE 1 3242 [.l (an 0),.l row] (aF R::J) (ag t) [] (aF r::J)∧aW r∧r[t]? =ac row∧(r=R∨r=R++[row]):=by
 by_cases h:row∈R
 ·obtain⟨t,a,e⟩:=q_ h;have e:R[t]? =ac row:=by rw[cS a,e]
  exact hK t R (Pa I e) I e (av rfl)
 ·exact hK R.length (R++[row]) (Of I h k l) (I.snoc h k) (by simp) (aI rfl)
theorem No {l:List Nat}:aj.key 8 (.j [ae 6,.j (l.map ag)])=true:=by
 have h:(l.map ag).all (aj.key 6)=true:=by rw[pD,cH];exact fun _ _=>rfl
 refine((ak h ?_):(af&&((l.map ag).all (aj.key 6)&&af))=af);rfl
theorem AJ {X:aj} (I:aW R) (F:X=.c (H.map fun p=>ag p.1)∨X=.j (H.map fun p=>ag p.1)) (α:∀p∈H,gY R p.1 p.2) (o:∀p∈H,∀i∈p.2,sJ R i)
  (A:(du H []).length<64) (u:fO R (du H [])≠[]) (β:R.length≤1000000):
  ∃t x,aE 4 171 [.l (an 0),.l X] (aF R::J) (ag t) [] (aF x::J)∧aW x∧(x=R∨x=R++[.j [ae 6,.j ((fO R (du H [])).map ag)]])∧
   ((fO R (du H [])=[t]∧x=R)∨(2≤(fO R (du H [])).length∧x[t]? =ac (.j [ae 6,.j ((fO R (du H [])).map ag)]))):=by
 have L:∀i∈du H [],sJ R i:=fun i v=>by
  rcases r3.mp v with⟨p,y,z⟩|h
  ·exact o p y i z
  ·cases h
 have γ:∀p∈H,∀i∈p.2,i∈du H []:=fun p h i v=>r3.mpr (av ⟨p,h,v⟩);have δ:∀G:List Nat,G.Nodup∧(∀i∈G,i∈du H [])→G.length≤1000000:=fun G h=>ao (h.1.length_le_of_subset h.2) (aD (gJ A) rfl);have ε:∀(G:List Nat) i,i∈du H []→G.Nodup∧(∀i∈G,i∈du H [])→(gA i G).Nodup∧(∀j∈gA i G,j∈du H []):=fun G i v h=>⟨vO h.1,fun j ζ=>(qW.mp ζ).elim (fun e=>e▸v) (h.2 j)⟩;have l:∀n,3≤n→ca bw (aZ n) (dR 171 [1] ah (H.map fun p=>ag p.1) [(1,.l (an 0)),(23,.l X),(22,bE (.e []))] (aF R::J)) a' [(1,.l (an 0)),(23,.l X),(22,bE (.e (b8 (du H []))))] (aF R::J):=fun n f=>
  (qt [1] (fun p=>ag p.1) H (fun G p=>p.2.foldl (fun G i=>gA i G) G) (fun G=>[(1,.l (an 0)),(23,.l X),(22,bE (.e (b8 G)))]) (fun _=>aF R::J) (fun G=>G.Nodup∧∀i∈G,i∈du H []) [] ⟨h7,fun _ h=>nomatch h⟩ rfl fun G h p M=>by
   obtain⟨a,q⟩:=qt (n:=n) (g:=171) (b:=ah) [1,0] ag p.2 (fun G i=>gA i G) (fun G=>[(1,.l (an 0)),(23,.l X),(22,bE (.e (b8 G))),(19,.l (ag p.1))]) (fun _=>aF R::J) (fun G=>G.Nodup∧∀i∈G,i∈du H []) G h rfl fun G h i v=>
    ⟨ε G i (γ p M i v) h,a',av rfl,by exact bq 0 [.set (pZ (i:=i) (δ G h))],rfl⟩
   exact⟨a,a',av rfl,by exact bq 0 [.call (jx (J:=J) (α p M) n (bl f rfl)),.sub q],rfl⟩).2
 have C:∀n,3≤n→ca bw (aZ n) (ep 171 [5] 0 59 ((kT (du H [])).map ag) [(1,.l (an 0)),(23,.l X),(22,bE (.e (b8 (du H [])))),(24,.l (ae (-1)))] (aF R::J)) (.h (.c ((fO R (du H [])).map ag))) [(1,.l (an 0)),(23,.l X),(22,bE (.e (b8 (du H [])))),(24,.l (ae (-1)))] (aF R::J):=fun n f=>by
  unfold fO;rw[←nI];refine fM [5] 0 59 ag _ _ _ _ fun i v=> ?_;obtain⟨⟨row,w,P,Q⟩,_⟩:=L i ((md _).mem_iff.mp v);have E:=Ha (G:=du H []) (J:=J) P Q n (bl f rfl);have η:mv R i=w:=by unfold mv;exact ak P Q.wh.symm
  refine ak η ?_;cases e: !aM (∃j∈du H [],(j:Int)=w)<;>rw[e] at E
  ·exact cX 0 [.call E]
  ·exact cX 0 [.call E]
 have N:∀k,(k=0∨k=1∨k=13∨k=14∨k=15)→k∉du H []:=fun k u m=>by
  exact jc ((L k m).q) fun a b c d e=>u.elim a fun u=>u.elim b fun u=>u.elim c fun u=>u.elim d e
 have S:=OK (Y:=aF R::J) (N 0 (by simp)) (N 13 (by simp)) (N 1 (by simp));have T:=JM (Y:=aF R::J) (N 14 (by simp)) (N 15 (by simp)) (aD (gJ A) rfl);have s:(uG (b8 (du H []))).e=ac (.c ((kT (du H [])).map ag)):=by
  show(if(b8 (du H [])).length<64 then _ else _)=_
  rw[aJ (by rw[Co];exact A),Ka];show ac (aj.c ((nB ((du H []).map k6)).map ae))=_;rw[Hi,eg];rfl
 have B:((kT (du H [])).map ag).length≤b4:=by rw[aB,(md _).length_eq];exact aD (gJ A) rfl
 have U:(fO R (du H [])).length≤400:=ao (hY _ _) (by rw[(md _).length_eq];exact aD (gJ A) rfl);generalize fO R (du H [])=θ at*
 match θ,u with
 |[t],_=>
  refine hK t R (yW.of _ _ fun n f=> ?_) I (av rfl) (av ⟨rfl,rfl⟩);have y:=S n (bl f rfl);have z:=T n (bl f rfl);rcases F with rfl|rfl
  ·exact aw 256 [.sub (l n f),.call y,.call z,.F s,.le B,.sub (C n f)]
  ·exact aw 256 [.sub (l n f),.call y,.call z,.F s,.le B,.sub (C n f)]
 |a::b::r,_=>
  refine ii (AP (J:=J) (row:=.j [ae 6,.j ((a::b::r).map ag)]) I ⟨No,rfl⟩ β) fun t x ι κ μ ν=>hK t x (yW.of _ _ fun n f=> ?_) κ ν (aI ⟨gH _ _,μ⟩);have y:=S n (bl f rfl);have z:=T n (bl f rfl);have V:=ι n (bl f rfl);have D:((a::b::r).map ag).length≤16777216:=by rw[aB];exact aD U rfl
  have W:¬(((a::b::r).map ag).length:Int)=1:=fun e=>D6 _ (uc (dh e));have Z:(wK.k d4 (ag ((a::b::r).map ag).length) (ae 400)).e=ac false:=by
   show ac (aM ((400:Int)<(((a::b::r).map ag).length:Int)))=_;rw[cP];rw[aB];exact hD.mpr (gq.mpr U)
  rcases F with rfl|rfl
  ·exact aw 16777472 [.sub (l n f),.call y,.call z,.F s,.le B,.sub (C n f),.O D,.C W,.O D,.z Z,.call V]
  ·exact aw 16777472 [.sub (l n f),.call y,.call z,.F s,.le B,.sub (C n f),.O D,.C W,.O D,.z Z,.call V]
def gh (k:List Nat):Prop:=k≠[]∧k.Pairwise (·<·)∧(∀u∈k,u<9)∧(6∈k→0∉k∧1∉k)∧(7∈k→2∉k)
noncomputable def ce (us:List Nat) (u:Nat):Bool:=((u==0||u==1)&&us.contains 6)||(u==2&&us.contains 7)
noncomputable def cM (us:List Nat):List Nat:=(cv 9).filter fun u=>us.contains u&& !ce us u
theorem fp:u∈cM us↔u<9∧u∈us∧ce us u=false:=by
 unfold cM;rw[c_,hB];simp
theorem lc (h:∃u∈us,u<9):gh (cM us):=by
 refine⟨?_, ?_,fun u b=>(fp.mp b).1,fun c=> ?_,fun d=> ?_⟩
 ·obtain⟨u,b,g⟩:=h;intro e;have n:∀v,v∉cM us:=fun v f=>by rw[e] at f;cases f
  by_cases a:ce us u=af
  ·unfold ce at a;simp only[dK,fu,dL,tW,n6] at a;rcases a with⟨_,c⟩|⟨_,d⟩
   ·exact n 6 (fp.mpr ⟨eJ [] (.g 1 (.a (.n 6) .n1) (.n 9)) rfl,c,by simp[ce]⟩)
   ·exact n 7 (fp.mpr ⟨eJ [] (.g 1 (.a (.n 7) .n1) (.n 9)) rfl,d,by simp[ce]⟩)
  ·exact n u (fp.mpr ⟨g,b,by simpa using a⟩)
 ·exact List.Pairwise.sublist List.filter_sublist List.pairwise_lt_range
 ·have i:=(fp.mp c).2.1;refine⟨fun h=> ?_,fun h=> ?_⟩<;>(have:=(fp.mp h).2.2;simp[ce,i] at this)
 ·have j:=(fp.mp d).2.1;intro h;have:=(fp.mp h).2.2;simp[ce,j] at this
theorem pj {m:List Nat} (c:l.Pairwise (·<·)) (d:m.Pairwise (·<·)) (h:∀x,x∈l↔x∈m):l=m:=QV (fun a b _ _ p q=>aR (rr p q) (gI _)) c d ((List.perm_ext_iff_of_nodup (c.imp hZ) (d.imp hZ)).mpr h)
theorem qm (h:gh k):cM k=k:=by
 refine pj (lc ?_).2.1 h.2.1 fun u=> ?_
 ·cases k with
  |nil=>exact aR rfl h.1
  |cons a r=>exact⟨a,kZ,h.2.2.1 a kZ⟩
 ·rw[fp];refine⟨fun f=>f.2.1,fun b=>⟨h.2.2.1 u b,b, ?_⟩⟩;unfold ce;rw[DI];constructor
  ·by_cases c:6∈k
   ·have:=h.2.2.2.1 c;have g:u≠0:=fun e=>this.1 (e▸b);have i:u≠1:=fun e=>this.2 (e▸b);simp[g,i]
   ·simp[c]
  ·by_cases d:7∈k
   ·have j:u≠2:=fun e=>h.2.2.2.2 d (e▸b);simp[j]
   ·simp[d]
def cq (R:List aj) (i u:Nat):Prop:=R[i]? =ac (io u)∧u<9
theorem q6 {P:Nat→Prop} (h:P 0∧P 1∧P 2∧P 3∧P 4∧P 5∧P 6∧P 7∧P 8):∀u,u<9→P u
 |0,_=>h.1|1,_=>h.2.1|2,_=>h.2.2.1|3,_=>h.2.2.2.1|4,_=>h.2.2.2.2.1|5,_=>h.2.2.2.2.2.1|6,_=>h.2.2.2.2.2.2.1|7,_=>h.2.2.2.2.2.2.2.1|8,_=>h.2.2.2.2.2.2.2.2
 |_+9,h=>aR h (e7 (dN (.g 1 (.n 9) (.a .b (.n 9))) rfl))
theorem vE (u:Nat) (h:u<9):aj.key 8 (io u)=true:=q6 (P:=fun u=>aj.key 8 (io u)=af) (by decide+kernel) u h
theorem K9 (h:u<9) (a:v<9) (e:io u=io v):u=v:=by
 have:∀u,u<9→∀v,v<9→aj.beq (io u) (io v)=af→u=v:=by decide+kernel
 exact this u h v a ((lw _ _ 8 (vE u h)).mpr e)
theorem oM {R:List aj} (h:R.Nodup) {j:Nat} (a:R[i]? =ac r) (b:R[j]? =ac r):i=j:=(DY (hy.mp a).1 h).mp (a.trans b.symm)
theorem cq.inj {R:List aj} (I:aW R) {j:Nat} (a:cq R i u) (b:cq R j u):i=j:=oM I.nd a.1 b.1
theorem cq.code (a:cq R i u) (b:cq R i v):u=v:=K9 a.2 b.2 (bD (a.1.symm.trans b.1))
theorem aW.at (I:aW R) (h:t<16):R[t]? =dT[t]? :=by
 obtain⟨r,rfl⟩:=I.base;exact jF (h)
theorem aW.un (I:aW R):cq R 4 8∧cq R 5 5∧cq R 6 7∧cq R 7 6∧cq R 8 4∧cq R 9 3:=
 ⟨⟨by rw[I.at (eJ [] (.g 1 (.a (.n 4) .n1) (.n 16)) rfl)];rfl,eJ [] (.g 1 (.a (.n 8) .n1) (.n 9)) rfl⟩,⟨by rw[I.at (eJ [] (.g 1 (.a (.n 5) .n1) (.n 16)) rfl)];rfl,eJ [] (.g 1 (.a (.n 5) .n1) (.n 9)) rfl⟩,⟨by rw[I.at (eJ [] (.g 1 (.a (.n 6) .n1) (.n 16)) rfl)];rfl,eJ [] (.g 1 (.a (.n 7) .n1) (.n 9)) rfl⟩,⟨by rw[I.at (eJ [] (.g 1 (.a (.n 7) .n1) (.n 16)) rfl)];rfl,eJ [] (.g 1 (.a (.n 6) .n1) (.n 9)) rfl⟩,⟨by rw[I.at (eJ [] (.g 1 (.a (.n 8) .n1) (.n 16)) rfl)];rfl,eJ [] (.g 1 (.a (.n 4) .n1) (.n 9)) rfl⟩,⟨by rw[I.at (eJ [] (.g 1 (.a (.n 9) .n1) (.n 16)) rfl)];rfl,eJ [] (.g 1 (.a (.n 3) .n1) (.n 9)) rfl⟩⟩
theorem aW.far (I:aW R) (h:R[i]? =ac row) (k:aj.key 8 row=af) (b:∀t,t<16→t∈[0,1,2,3,10,11,12,13,14,15]→aj.beq row ((dT[t]?).getD a4)=ai):i∉[0,1,2,3,10,11,12,13,14,15]:=fun m=>by
 have a:i<16:=(by decide:∀j∈([0,1,2,3,10,11,12,13,14,15]:List Nat),j<16) i m;have:=b i a m;rw[←I.at a,h] at this;rw[nW,(lw row row 8 k).mpr rfl] at this;cases this
theorem cq.far (I:aW R) (a:cq R i u):i∉[0,1,2,3,10,11,12,13,14,15]:=I.far a.1 (vE u a.2) (by
 have:∀u,u<9→∀t,t<16→t∈[0,1,2,3,10,11,12,13,14,15]→aj.beq (io u) ((dT[t]?).getD a4)=false:=by decide+kernel
 exact this u a.2)
theorem cq.ok (I:aW R) (a:cq R i u):sJ R i:=by
 have q {j:Nat} (h:j∈[0,1,2,3,10,11,12,13,14,15]):i≠j:=fun e=>a.far I (e▸h);exact⟨⟨_,_,a.1,sF u a.2⟩,kG (q (by decide)) (q (by decide)) (q (by decide)) (q (by decide)) (q (by decide))⟩
structure bH (R:List aj) (t:Nat) (k O:List Nat):Prop where
 pt:gY R t O
 sorted:O.Pairwise (·<·)
 nk:gh k
 to:∀i∈O,∃u∈k,cq R i u
 fr:∀u∈k,∃i∈O,cq R i u
theorem My {m:List Nat} (h:l.map ag=m.map ag):l=m:=(DS fun _ _ e=>dh (aj.int.inj e)).mp h
theorem bH.ids_of (I:aW R) {t:Nat} (a:bH R t k O) (b:bH R t' k n):O=n:=
 pj a.sorted b.sorted fun i=>⟨fun h=>by
  obtain⟨u,e,g⟩:=a.to i h;obtain⟨j,l,m⟩:=b.fr u e;rw[g.inj I m];exact l,fun h=>by
  obtain⟨u,e,g⟩:=b.to i h;obtain⟨j,l,m⟩:=a.fr u e;rw[g.inj I m];exact l⟩
theorem bH.uniq {R:List aj} (I:aW R) {t':Nat} (a:bH R t k O) (b:bH R t' k i):t=t':=by
 have e:=a.ids_of I b;subst e;rcases a.pt.2 with⟨_,_,_,_,e⟩|⟨h,l⟩<;>rcases b.pt.2 with⟨_,_,_,_,E⟩|⟨j,g⟩
 ·rw[e] at E;cases E;rfl
 ·rw[e] at g;simp at g
 ·rw[E] at l;simp at l
 ·exact oM I.nd h j
theorem mL (I:aW R) {t:Nat} (a:bH R t k O) (b:bH R t k' p):k=k'∧O=p:=by
 have e:O=p:=by
  rcases a.pt.2 with⟨r,w,h,q,e⟩|⟨h,l⟩<;>rcases b.pt.2 with⟨x,W,g,s,E⟩|⟨g,y⟩
  ·rw[e,E]
  ·rw[g] at h;cases h;cases q
  ·rw[h] at g;cases g;cases s
  ·rw[h] at g;simp only[Option.some.injEq,aj.j.injEq,List.cons.injEq,true_and,and_true] at g;exact My g
 subst e;refine⟨pj a.nk.2.1 b.nk.2.1 fun u=>⟨fun h=> ?_,fun h=> ?_⟩,rfl⟩
 ·obtain⟨i,j,m⟩:=a.fr u h;obtain⟨v,n,o⟩:=b.to i j;rw[m.code o];exact n
 ·obtain⟨i,j,m⟩:=b.fr u h;obtain⟨v,n,o⟩:=a.to i j;rw[m.code o];exact n
def bL (R r:List aj):Prop:=∃S,r=R++S
theorem bL.f:bL R R:=⟨[],by simp⟩
theorem bL.trans (a:bL R S) (b:bL S T):bL R T:=a.elim fun x h=>b.elim fun y c=>⟨x++y,by rw[c,h,ef]⟩
theorem bL.at (e:bL R a) {i:Nat} (h:R[i]? =ac r):a[i]? =ac r:=by
 obtain⟨S,rfl⟩:=e;rw[jF (hy.mp h).1];exact h
theorem cq.mono (e:bL R r) {i:Nat} (a:cq R i u):cq r i u:=⟨e.at a.1,a.2⟩
theorem gY.mono (e:bL R b) {t:Nat} (a:gY R t O):gY b t O:=⟨a.1,a.2.imp (fun z=>z.elim fun r Z=>Z.elim fun w c=>c.elim fun h q=>⟨r,w,e.at h,q⟩) fun z=>z.elim fun h q=>⟨e.at h,q⟩⟩
theorem bH.mono (e:bL R r) (a:bH R t k O):bH r t k O:=
 ⟨a.pt.mono e,a.sorted,a.nk,fun i h=>(a.to i h).elim fun u z=>z.elim fun b g=>⟨u,b,g.mono e⟩,fun u h=>(a.fr u h).elim fun i z=>z.elim fun b g=>⟨i,b,g.mono e⟩⟩
theorem bH.d (I:aW R) (h:cq R t u):bH R t [u] [t]:=
 ⟨⟨fun e=>h.far I (by rw[e];decide),av ⟨_,_,h.1,sF u h.2,rfl⟩⟩,by simp,⟨by simp,by simp,by simpa using h.2,by simp;rintro rfl;exact⟨by decide,by decide⟩,by simp;rintro rfl;decide⟩,fun i a=>⟨u,by simp,by rw[bW.mp a];exact h⟩,fun v b=>⟨t,by simp,by rw[bW.mp b];exact h⟩⟩
noncomputable def fZ (qs:List (Nat×List Nat×List Nat)):List Nat:=du (qs.map fun q=>(q.1,q.2.2)) []
theorem zk (h:cq R i u):mv R i=i4 u:=by
 unfold mv;rw[h.1,nW,←(sF u h.2).wh]
theorem Jw (I:aW R) {G:List Nat} (n:G.Nodup) (h:∀i∈G,∃u,cq R i u):G.length≤9:=by
 classical
 have f:∀u,∃j,∀i,cq R i u→i=j:=fun u=>by
  by_cases x:∃i,cq R i u
  ·exact⟨x.choose,fun i a=>a.inj I x.choose_spec⟩
  ·exact⟨0,fun i a=>aR ⟨i,a⟩ x⟩
 let g:Nat→Nat:=fun u=>(f u).choose
 have:G.length≤((cv 9).map g).length:=n.length_le_of_subset fun i a=>by
  obtain⟨u,b⟩:=h i a;exact cr.mpr ⟨u,hB.mpr b.2,((f u).choose_spec i b).symm⟩
 simpa using this
theorem oF (h:r=R∨r=R++[x]):bL R r∧r.length≤R.length+1:=
 h.elim (fun e=>e▸⟨.f,fQ _⟩) fun e=>⟨⟨_,e⟩,e▸a9 bi⟩
theorem p8 (I:aW R) (k:lF row) (a:R.length≤1000000)
  {G:Prop} (q:∀t r,aE 1 3242 [.l (an 0),.l row] (aF R::J) (ag t) [] (aF r::J)→aW r→bL R r→r.length≤R.length+1→r[t]? =ac row→G):G:=
 have⟨t,r,b,c,d,h⟩:=AP I k a
 q t r b c (oF h).1 (oF h).2 d
theorem rT {J:ar} {qs:List (Nat×List Nat×List Nat)} (I:aW R) (ζ:X=.c (qs.map fun q=>ag q.1)∨X=.j (qs.map fun q=>ag q.1)) (C:∀q∈qs,bH R q.1 q.2.1 q.2.2) (η:qs≠[])
  (θ:R.length≤1000000)
  {G:Prop} (q:∀t A O,aE 4 171 [.l (an 0),.l X] (aF R::J) (ag t) [] (aF A::J)→aW A→bL R A→A.length≤R.length+1→bH A t (cM (qs.flatMap (·.2.1))) O→G):G:=by
 have m:∀i,i∈fZ qs↔∃q∈qs,i∈q.2.2:=fun i=>by
  unfold fZ;rw[r3];simp only[cr,kh,or_false];constructor
  ·rintro ⟨_,⟨q,h,rfl⟩,f⟩;exact⟨q,h,f⟩
  ·rintro ⟨q,h,f⟩;exact⟨_,⟨q,h,rfl⟩,f⟩
 have n:∀i∈fZ qs,∃u,cq R i u:=fun i f=>by
  exact ay ((m i).mp f) fun q h f=>ay ((C q h).to i f) fun u _ c=>⟨u,c⟩
 have d:(fZ qs).Nodup:=yR h7;have D:∀u i,cq R i u→(i∈fZ qs↔u∈qs.flatMap (·.2.1)):=fun u i c=>by
  rw[m,pz];constructor
  ·rintro ⟨q,h,f⟩;refine ay ((C q h).to i f) fun v F ι=> ?_;exact bd q h (by rw[c.code ι];exact F)
  ·rintro ⟨q,h,F⟩;refine ay ((C q h).fr u F) fun j L κ=> ?_;exact bd q h (by rw[c.inj I κ];exact L)
 have T:=I.un;have s:∀u i,cq R i u→((∃j∈fZ qs,(j:Int)=mv R i)↔ce (qs.flatMap (·.2.1)) u=af):=fun u i c=>by
  rw[zk c];generalize fZ qs=G at*;generalize qs.flatMap (·.2.1)=U at*;have V:∀w:Nat,(∃j∈G,(j:Int)=(w:Int))↔w∈G:=fun w=>⟨fun z=>ay z fun j L e=>dh e▸L,fun h=>bd w h rfl⟩;have μ:¬∃j∈G,(j:Int)= -1:=fun z=>ay z fun j _ e=>nomatch e;have E:=V 7;have W:=V 6;rw[(D 6 7 T.2.2.2.1)] at E;rw[(D 7 6 T.2.2.1)] at W;rcases((DU u).imp_right fun h=>(RQ h).imp cB fun h=>(RQ h).imp cB id:u=0∨u=1∨u=2∨3≤u) with rfl|rfl|rfl|g
  ·rw[show i4 0=((7:Nat):Int) from rfl,E];simp[ce]
  ·rw[show i4 1=((7:Nat):Int) from rfl,E];simp[ce]
  ·rw[show i4 2=((6:Nat):Int) from rfl,W];simp[ce]
  ·have ν:i4 u= -1:=by match u,g with|_+3,_=>rfl
   have ξ:u≠0:=lP (bl g rfl);have x:u≠1:=lP (bl g rfl);have l:u≠2:=lP g;refine ak ν ?_;constructor
   ·intro h;exact aR h μ
   ·intro h;simp[ce,ξ,x,l] at h
 have Z:∀i,i∈fO R (fZ qs)↔i∈fZ qs∧∃u,cq R i u∧ce (qs.flatMap (·.2.1)) u=false:=fun i=>by
  unfold fO;rw[c_,(md _).mem_iff];constructor
  ·rintro ⟨x,l⟩;obtain⟨u,c⟩:=n i x;simp only[x5,decide_eq_false_iff_not,s u i c] at l;exact⟨x,u,c,by simpa using l⟩
  ·rintro ⟨x,u,c,l⟩;refine⟨x, ?_⟩;simp only[x5,decide_eq_false_iff_not,s u i c,l];simp
 have α:gh (cM (qs.flatMap (·.2.1))):=by
  induction β:qs using cn with
  |nil=>exact aR β η
  |cons q r=>
   have:=(C q (by rw[β];simp)).nk;refine iD this fun x _ g _=> ?_;induction k:q.2.1 using cn with
   |nil=>exact aR k x
   |cons u _=>exact lc (bd u (by simp[k]) (g u (by rw[k];simp)))
 have o:∀i∈fO R (fZ qs),∃u∈cM (qs.flatMap (·.2.1)),cq R i u:=fun i f=>by
  obtain⟨x,u,c,l⟩:=(Z i).mp f;exact bd u (fp.mpr ⟨c.2,(D u i c).mp x,l⟩) c
 have γ:∀u∈cM (qs.flatMap (·.2.1)),∃i∈fO R (fZ qs),cq R i u:=fun u c=>by
  exact dQ (fp.mp c) fun x l g=>ay (pz.mp l) fun q ο π=>ay ((C q ο).fr u π) fun i _ M=>bd i ((Z i).mpr ⟨(D u i M).mpr l,u,M,g⟩) M
 have ρ:fO R (fZ qs)≠[]:=fun e=>by
  induction δ:cM (qs.flatMap (·.2.1)) using cn with
  |nil=>exact α.1 δ
  |cons u _=>
   refine ay (γ u (by refine ak δ ?_;simp)) fun i f _=> ?_;have f:=e▸f;cases f
 have σ:(fO R (fZ qs)).Pairwise (·<·):=by
  have x:(kT (fZ qs)).Pairwise (·<·):=by
   have l:=IP (fZ qs);have g:=(md _).nodup_iff.mpr d;exact(l.and g).imp fun z=>z.elim fun a b=>ux (Nat.lt_or_gt_of_ne z.2) (fun y=>cD (.c 1 (.a .b .n1) .f (.g 1 (.a .b .n1) .f)) rfl y) fun y=>cD (.c 2 .b .f (.c 1 (.a .f .n1) .b (.g 1 (.a .b .n1) .f))) rfl z.1 y
  exact x.sublist mX
 have P:∀p∈qs.map fun q=>(q.1,q.2.2),gY R p.1 p.2:=fun p N=>by
  refine ay (cr.mp N) fun q h Q=> ?_;subst Q;exact(C q h).pt
 have τ:∀p∈qs.map fun q=>(q.1,q.2.2),∀i∈p.2,sJ R i:=fun p N i f=>by
  refine ay (cr.mp N) fun q h Q=> ?_;subst Q;refine ay ((C q h).to i f) fun u _ c=> ?_;exact c.ok I
 refine ii (AJ (R:=R) (J:=J) (H:=qs.map fun(q:Nat×List Nat×List Nat)=>(q.1,q.2.2)) (X:=X) I (by refine ak eg ?_;exact ζ) P τ (show(fZ qs).length<64 by exact dN (.c 1 .b (.n 9) (.g 1 (.a .b .n1) (.n 64))) rfl (Jw I d n)) ρ θ) fun t A x ε l g=> ?_;change _∨A=R++[.j [ae 6,.j ((fO R (fZ qs)).map ag)]] at l;change(fO R (fZ qs)=[t]∧_)∨(2≤(fO R (fZ qs)).length∧A[t]? =ac (.j [ae 6,.j ((fO R (fZ qs)).map ag)])) at g;have S:=(oF l).1;refine q t A (fO R (fZ qs)) x ε S (oF l).2 (⟨?_,σ,α,fun i f=>ay (o i f) fun u a b=>⟨u,a,b.mono S⟩,fun u c=>ay (γ u c) fun i a b=>⟨i,a,b.mono S⟩⟩);rcases g with⟨g,B⟩|⟨g,B⟩
 ·refine ay (o t (by refine ak g ?_;simp)) fun u _ c=> ?_;refine ak g ?_;refine ak B ?_;exact(bH.d I c).pt
 ·refine⟨fun e=> ?_,aI ⟨B,g⟩⟩;have B:=e▸B;have B:=ε.at (eJ [] (.g 1 (.a .n2 .n1) (.n 16)) rfl)▸B;cases B
noncomputable def bc (p:Nat×Nat):aj:=.j [ag p.1,ag p.2]
noncomputable def cE (l:List (Nat×Nat)):List (aj×aj):=l.map fun p=>(bc p,ae 1)
noncomputable def eX (l:List ((Nat×Nat)×Bool)):List (aj×aj):=l.map fun p=>(bc p.1,aA p.2)
noncomputable def bF:oD:=⟨232,[(18,.l (an 0)),(20,.l (ae 0)),(52,.l (ae 200)),(53,.l (ae 40)),(54,.l a4)]⟩
noncomputable def yQ (r:im) (A tr:List (Nat×Nat)) (K:List ((Nat×Nat)×Bool)) (dp lk m n:Nat) (t:Bool) (T:aj):oD:=
 ⟨198,[(11,.l (an 1)),(13,.l (ag m)),(1,r),(16,b1 (.e (cE A))),(21,b1 (.e (eX K))),(15,b1 (.c (tr.map bc))),(48,b1 (.c [])),(20,.l (ag dp)),(19,.l (ag lk)),(14,.l (an n)),(10,.l (aA t)),(12,.l T),(49,.l (bP "")),(50,.l (ae 0))]⟩
noncomputable def l9 (r:im) (tr:List (Nat×Nat)) (K:List ((Nat×Nat)×Bool)) (dp lk m n:Nat) (t:Bool) (T:aj):oD:=yQ r tr tr K dp lk m n t T
noncomputable def ek (N:Nat):oD:=⟨109,[(0,b1 (.c (cx N (.j [ae 3,ae 0]))))]⟩
noncomputable def qY:List (aj×aj):=[(ae 4,an 4),(ae 12,an 5),(ae 13,an 6)]
structure bh where
 tr:List (Nat×Nat)
 K:List ((Nat×Nat)×Bool)
 dp:Nat
 a:Nat
 N:Nat
 tel:Bool
 tw:Option (List (Nat×Nat)×Nat)
noncomputable def AB:Option (List (Nat×Nat)×Nat)→aj
 |none=>a4
 |some _=>an 7
noncomputable def wq:Option (List (Nat×Nat)×Nat)→ar
 |none=>[]
 |some (F,l)=>[l9 (.l (da 2 1)) [] (F.map fun p=>(p,ai)) 0 l 3 8 ai a4,ek 0]
noncomputable def bh.rest (m:bh):ar:=bF::l9 (b1 (.e qY)) m.tr m.K m.dp m.a 1 3 m.tel (AB m.tw)::ek m.N::⟨273,[]⟩::⟨257,[]⟩::⟨252,[]⟩::wq m.tw
noncomputable def bh.stY (m:bh) (A:List (Nat×Nat)) (R:List aj):ar:=aF R::bF::yQ (b1 (.e qY)) A m.tr m.K m.dp m.a 1 3 m.tel (AB m.tw)::ek m.N::⟨273,[]⟩::⟨257,[]⟩::⟨252,[]⟩::wq m.tw
noncomputable def bh.st (m:bh) (R:List aj):ar:=aF R::m.rest
theorem NL:cx N x++[x]=cx (N+1) x:=by rw[List.replicate_succ']
theorem JX (h:bc p=bc q):p=q:=by
 unfold bc at h;simp only[aj.j.injEq,ri,aj.int.injEq,and_true] at h;obtain⟨a,b⟩:=p;obtain⟨c,d⟩:=q;simp only[Ea];exact⟨dh h.1,dh h.2⟩
theorem y3 (p:Nat×Nat):aj.key 8 (bc p)=true:=rfl
theorem ml:aj.beq (bc p) (bc q)=aM (p=q):=by
 by_cases h:p=q
 ·subst h;rw[cu rfl,(lw _ _ 8 (y3 p)).mpr rfl]
 ·rw[cP h];induction e:aj.beq (bc p) (bc q) with
  |false=>rfl
  |true=>exact aR (JX ((lw _ _ 8 (y3 p)).mp e)) h
theorem vf:∀{l:List (Nat×Nat)},dA (bc p) (cE l)=aM (p∈l):=by
 intro l;induction l with
 |nil=>
  exact(cP kh).symm
 |cons q l i=>
  show(aj.beq (bc q) (bc p)||dA (bc p) (cE l))=_;rw[i,ml];by_cases h:p=q
  ·subst h;simp
  ·have a:¬q=p:=fun e=>h e.symm;simp[h,a]
theorem tF:cT (bc p) (cE l)=true:=by unfold cT;induction l<;>rfl
theorem tu:cT (bc p) (eX l)=true:=by unfold cT;induction l<;>rfl
theorem CK:∀{l:List ((Nat×Nat)×Bool)},dA (bc p) (eX l)=(l.lookup p).isSome:=by
 intro l;induction l with
 |nil=>rfl
 |cons x l i=>
  obtain⟨q,b⟩:=x;show(aj.beq (bc q) (bc p)||dA (bc p) (eX l))=_;rw[i,ml,fP];by_cases h:p=q
  ·subst h;simp
  ·have a:¬q=p:=fun e=>h e.symm;simp[a,c5.mpr h]
theorem Cn:∀{l:List ((Nat×Nat)×Bool)},f3 (bc p) (eX l)=(l.lookup p).map aA:=by
 intro l;induction l with
 |nil=>rfl
 |cons x l i=>
  obtain⟨q,b⟩:=x;show(if aj.beq (bc q) (bc p)=af then ac (aA b) else f3 (bc p) (eX l))=_
  rw[i,ml,fP];by_cases h:p=q
  ·subst h;simp
  ·have a:¬q=p:=fun e=>h e.symm;simp[a,c5.mpr h]
theorem v2:cZ (bc p) (.e (cE l))=ac (aM (p∈l)):=by
 show(if cT _ _ then ac (dA _ _) else ah)=_;rw[aJ tF,vf]
theorem qu:cZ (bc p) (.e (eX l))=ac (l.lookup p).isSome:=by
 show(if cT _ _ then ac (dA _ _) else ah)=_;rw[aJ tu,CK]
theorem u2 (h:p∉l) (a:l.length≤1000000):gT (.e (cE l)) (bc p) (ae 1)=ac (.e (cE (l++[p]))):=by
 show(if cT _ _∧(cE l).length≤b4 then ac (b0.e (gd _ _ _)) else ah)=_
 rw[aJ ⟨tF,by unfold cE;rw[aB];exact a⟩,tJ (by rw[vf,cP h])];unfold cE;simp
theorem uN (h:l.lookup p=ah) (a:l.length≤1000000):gT (.e (eX l)) (bc p) (aA b)=ac (.e (eX (l++[(p,b)]))):=by
 show(if cT _ _∧(eX l).length≤b4 then ac (b0.e (gd _ _ _)) else ah)=_
 rw[aJ ⟨tu,by unfold eX;rw[aB];exact a⟩,tJ (by rw[CK,h];rfl)];unfold eX;simp
theorem Fb:∀{l:List (Nat×Nat)},p∉l→hR (bc p) (cE (l++[p]))=cE l:=by
 intro l;induction l with
 |nil=>
  intro _;show(if aj.beq (bc p) (bc p)=af then[] else _)=_;refine ak ml (ak (cu rfl) ?_);rfl
 |cons q l i=>
  intro h;show(if aj.beq (bc q) (bc p)=af then _ else(bc q,ae 1)::hR (bc p) (cE (l++[p])))=_
  refine ak ml (ak (cP (fun e:q=p=>h (e▸kZ))) (ak (i fun m=>h (je _ m)) ?_));rfl
theorem B':hR (bc p) (cE (p::l))=cE l:=by show(if aj.beq (bc p) (bc p)=af then cE l else _)=_;refine ak ml (ak (cu rfl) ?_);rfl
theorem vq (h:p∈l):(cT (bc p) (cE l)&&dA (bc p) (cE l))=true:=by rw[tF,vf,cu h];rfl
theorem O0 (l:List a):l=[]∨∃i x,l=i++[x]:=by
 rcases List.eq_nil_or_concat l with h|⟨i,x,h⟩
 ·exact .inl h
 ·exact .inr ⟨i,x,by rw[h,List.concat_eq_append]⟩
theorem Bw {m:bh}:aE 1 207 [.l (an 2)] (m.st R) (aA m.tel) [] (m.st R):=yW.of _ _ fun n h=>by
 obtain⟨T,k,d,l,N,t,w⟩:=m;induction t<;>exact aw 0 []
theorem Fs {m:bh} (h:m.N≤1000000):aE 1 1361 [.l (an 3),.l (ae 3),.l (ae 0)] (m.st R) (a4) [] ({m with N:=m.N+1}.st R):=yW.of _ _ fun n b=>by
 have a:fL 3 (.c (cx m.N (.j [ae 3,ae 0]))) [.j [ae 3,ae 0]]=ac (a4,.c (cx (m.N+1) (.j [ae 3,ae 0]))):=by
  show(if(cx m.N _).length≤b4 then _ else _)=_
  rw[kX,aJ (show m.N≤b4 from h),NL]
 exact aw 0 [.u a]
theorem tq {m:bh} (h:m.N≤1000000):aE 2 4922 [.l (an 2),.l (ae 3)] (m.st R) (a4) [] ({m with N:=if m.tel then m.N+1 else m.N}.st R):=yW.of _ _ fun n a=>by
 obtain⟨T,k,d,l,b,t,w⟩:=m;induction t
 ·exact aw 0 []
 ·exact aw 1 [.call (Fs (R:=R) h n a)]
theorem v5 {m:bh} (h:m.N≤1000000) (t:m.tr.length≤1000000):aE 1 4924 [.l (an 2)] (m.st R) (.j [ag m.N,ag m.tr.length]) [] (m.st R):=yW.of _ _ fun n a=>by
 exact aw 0 [.p (ds:=cx m.N (aj.j [ae 3,ae 0])) kX (aD h rfl),.p (ds:=m.tr.map bc) (aB _) (aD t rfl)]
theorem ze {m:bh} (k:m.tr.Nodup) (o:a≤m.N) (p:b≤m.tr.length) (t:m.tr.length<100000):
  aE 1 202 [.l (an 2),.l (.j [ag a,ag b])] (m.st R) (a4) [] ({m with N:=a,tr:=m.tr.take b}.st R):=yW.of _ _ fun n z=>by
 have E:(rH (ag a) (cx m.N (aj.j [ae 3,ae 0]))).e=ac (a4,.c (cx a (aj.j [ae 3,ae 0]))):=by
  show(if(0:Int)≤(a:Int) then ac (a4,b0.c ((cx m.N (aj.j [ae 3,ae 0])).take (a:Int).toNat)) else ah)=_
  rw[aJ (gG a),py,List.take_replicate,t9 o]
 obtain⟨_,_,_,⟨rfl,rfl,rfl⟩,w⟩:=wG (n:=n) (g:=202) [1] (fun _=>[(27,.l (an 2)),(33,.l (.j [ag a,ag b]))]) (fun l=>{m with N:=a,tr:=l}.st R) (fun l=>b≤l.length∧∃r,m.tr=l++r) gK
  (fun f L s=>f=a'∧L=[(27,.l (an 2)),(33,.l (.j [ag a,ag b]))]∧s={m with N:=a,tr:=m.tr.take b}.st R) m.tr ⟨p,[],by simp⟩ t rfl fun l h=>by
   obtain⟨q,r,e⟩:=h;have j:l.length≤16777216:=ao (by rw[e,bi];exact bu _ _) (aD (gJ t) rfl);by_cases c:b<l.length
   ·rcases O0 l with rfl|⟨i,x,rfl⟩
    ·exact absurd c (Nat.not_lt_zero _)
    have u:fL 2 (.c ((i++[x]).map bc)) []=some (bc x,.c (i.map bc)):=by
     rw[List.map_append];show(match(i.map bc++[bc x]).getLast? with|some d=>ac (d,b0.c (i.map bc++[bc x]).dropLast)|none=>ah)=_
     refine ak (Rr) (ak Ru ?_);rfl
    have v:(ou (bc x) (cE (i++[x]))).e=ac (a4,.e (cE i)):=by
     show(if(cT (bc x) (cE (i++[x]))&&dA (bc x) (cE (i++[x])))=af then ac (a4,b0.e (hR (bc x) (cE (i++[x])))) else ah)=_
     refine ak (vq (by simp)) (ak (Fb (fun y=>(ke.mp (ke.mp (e▸k)).1).2.2 x y x (by simp) rfl)) ?_);rfl
    refine av (hK i a' (⟨iW (by rw[bi] at c;exact c),[x]++r,by rw[e,ef]⟩) (by simp) (av rfl) (?_));exact bq 16 [.p (ds:=(i++[x]).map bc) (aB _) j,.ab c,.u u,.I v]
   ·refine aI (rW .o _ _ rfl (?_) rfl rfl rfl);rw[show m.tr.take b=l by rw[e,show b=l.length from e8 q (dC c),t_]];exact bq 16 [.p (ds:=l.map bc) (aB _) j,.W c]
 exact aw 1 [.I E,.sub w]
theorem Lk {m:bh} (h:m.tr.Nodup) (c:a≤m.N) (d:b≤m.tr.length) (t:m.tr.length<100000):
  aE 2 4925 [.l (an 2),.l (.j [ag a,ag b])] (m.st R) (a4) [] ({m with N:=a,tr:=m.tr.take b}.st R):=yW.of _ _ fun n e=>by
 exact aw 0 [.call (ze (R:=R) h c d t n e)]
inductive ib:aj→Prop
 |a {row:aj} {w:Int} (h:ju row w):ib row
 |un (p:aj):ib (.j [.int 6,p])
 |c (p q:aj):ib (.j [.int 11,p,q])
 |j (p q:aj):ib (.j [.int 12,p,q])
noncomputable def tp:aj→Bool
 |.j (.int 2::_)=>af
 |.j (.int 3::_)=>af
 |.j (.int 4::_)=>af
 |_=>ai
theorem GP (u:Nat) (h:u<9):tp (io u)=aM (u<5):=q6 (P:=fun u=>tp (io u)=aM (u<5)) (by decide) u h
structure gc (t:Nat):Prop where
 n0:¬(t:Int)=0
 n1:¬(t:Int)=1
 n2:¬(t:Int)=2
 n3:¬(t:Int)=3
 b:¬(t:Int)=10
 a:¬(t:Int)=13
theorem zP (h:R[t]? =ac row) (k:ib row):
  aE 1 173 [.l (an 0),.l (ag t)] (aF R::J) (aA (tp row)) [] (aF R::J):=yW.of _ _ fun n d=>by
 replace h:=dF h;induction k with
 |a b=>induction b<;>exact aw 0 [.get h]
 |un p=>exact aw 0 [.get h]
 |c p q=>exact aw 0 [.get h]
 |j p q=>exact aw 0 [.get h]
theorem JH (h:R[t]? =ac row) (k:ib row):
  aE 1 175 [.l (an 0),.l (ag t)] (aF R::J) (aA ai) [] (aF R::J):=yW.of _ _ fun n d=>by
 replace h:=dF h;induction k with
 |a b=>induction b<;>exact aw 0 [.get h]
 |un p=>exact aw 0 [.get h]
 |c p q=>exact aw 0 [.get h]
 |j p q=>exact aw 0 [.get h]
theorem Qw (h:R[t]? =ac row) (k:ib row):
  aE 2 176 [.l (an 0),.l (ag t)] (aF R::J) (ag t) [] (aF R::J):=yW.of _ _ fun n a=>by
 have b:=JH (J:=J) h k n a;exact aw 0 [.call b]
theorem kP:aE 1 6281 [.l (an 1),.l (ag t)] Y (ag t) [] Y:=yW.of _ _ fun n h=>by
 exact aw 0 []
theorem O1:aE 1 6285 [.l (an 1),.l (ag t)] Y (ag t) [] Y:=yW.of _ _ fun n h=>by
 exact aw 0 []
theorem mz (h:R[t]? =ac row) (k:ib row):
  aE 3 203 [.l (an 1),.l (ag t)] (aF R::bF::J) (ag t) [] (aF R::bF::J):=yW.of _ _ fun n a=>by
 have d:=kP (t:=t) (Y:=aF R::bF::J) n (bl a rfl);have c:=zP (J:=bF::J) h k n (bl a rfl);generalize tp row=b at c;have e:=Qw (J:=bF::J) h k n a;induction b;exact aw 0 [.call d,.call c];exact aw 256 [.call d,.call c,.call e]
theorem r7 {m:bh} (h:gc s) (c:gc t):aE 1 210 [.l (an 2),.l (ag s),.l (ag t)] (m.st R) (ae (-1)) [] (m.st R):=yW.of _ _ fun n i=>by
 obtain⟨a,A,d,j,k,e⟩:=h;obtain⟨b,B,f,l,o,g⟩:=c;exact aw 0 [.C b,.C g,.C d,.C e,.C a,.C B,.C a,.C A,.C f]
theorem eI:ez (.j (a::x)) (ae 0)=ac a:=dF (R:=a::x) (t:=0) rfl
theorem wr {m:bh} (k:gc s) (l:gc t) (h:R[s]? =ac (.j (ae a::x))) (c:R[t]? =ac (.j (ae b::y)))
  (o:(a=6∧(b=1∨b=2∨b=3∨b=4∨b=6))∨((a=1∨a=2∨a=3∨a=4∨a=11∨a=12)∧b=6)):
  aE 2 209 [.l (an 2),.l (ag s),.l (ag t)] (m.st R) (ae (-1)) [] (m.st R):=yW.of _ _ fun n p=>by
 have j:=r7 (m:=m) (R:=R) k l n p;replace h:=dF h;replace c:=dF c;have g:=eI (a:=ae a) (x:=x);have G:=eI (a:=ae b) (x:=y)
 have d:∀a:Int,(a=6→cZ (ae a) (.j [ae 6,ae 7,ae 10,ae 14,ae 15,ae 16,ae 17,ae 18,ae 19])=ac af)∧((a=1∨a=2∨a=3∨a=4∨a=11∨a=12)→cZ (ae a) (.j [ae 6,ae 7,ae 10,ae 14,ae 15,ae 16,ae 17,ae 18,ae 19])=ac ai):=
  fun a=>⟨fun e=>by subst e;rfl,fun e=>by rcases e with e|e|e|e|e|e<;>(subst e;rfl)⟩
 rcases o with⟨f,_⟩|⟨f,q⟩
 ·have i:=(d a).1 f;exact aw 16 [.call j,.get h,.get g,.get c,.get G,.has i]
 ·have i:=(d a).2 f;have I:=(d b).1 q;exact aw 16 [.call j,.get h,.get g,.get c,.get G,.has i,.has I]
theorem OL (h:¬b=5):aE 1 212 [.l (.j (ae b::y))] Y (aA ai) [] Y:=yW.of _ _ fun n c=>by
 have g:=eI (a:=ae b) (x:=y);exact aw 0 [.get g,.C h]
theorem P8 {m:bh} (h:¬b=5):aE 2 214 [.l (an 2),.l s,.l a,.l (.j (ae b::y))] (m.st R) (ae 0) [] (m.st R):=yW.of _ _ fun n c=>by
 have g:=OL (Y:=m.st R) (y:=y) h n c;exact aw 1 [.call g]
theorem Oi {m:bh} (j:gc t) (d:R[s]? =ac (.j (ae a::x))) (k:ju (.j (ae a::x)) w) (f:R[t]? =ac (.j (ae b::y))) (l:¬a=5) (p:¬b=5) (q:s=4→w= -1):
  aE 3 213 [.l (an 2),.l (ag s),.l (ag t)] (m.st R) (ae (if w=(t:Int) then 1 else 0)) [] (m.st R):=yW.of _ _ fun n o=>by
 have g:=Bt (Y:=m.st R) k n (bl o rfl);have r:=P8 (m:=m) (R:=R) (s:=ag s) (a:=.j (ae a::x)) (y:=y) p n o;replace d:=dF d;replace f:=dF f;have G:=eI (a:=ae a) (x:=x);have C:=j.n3;clear k j;by_cases i:(s:Int)=4
 ·have:w= -1:=q (dh i);subst this;have c:¬(-1:Int)=(t:Int):=fun e=>(by injection e);rw[aL c];exact aw 0 [.eq i,.C C]
 ·by_cases h:w=(t:Int)
  ·rw[aJ h];have c:(0:Int)≤w:=h▸gG t;exact aw 0 [.C i,.get d,.get f,.call g,.eq h,.call g,.N c]
  ·rw[aL h];exact aw 1048576 [.C i,.get d,.get f,.call g,.C h,.get G,.C l,.get G,.C l,.call r]
theorem L8 {m:bh} (p:gc s) (f:gc t) (h:R[s]? =ac (.j (ae a::x))) (q:ju (.j (ae a::x)) w) (d:R[t]? =ac (.j (ae b::y)))
  (j:a=1∨a=2∨a=3∨a=4) (k:b=1∨b=2∨b=3∨b=4) (r:s=4→w= -1):
  aE 4 209 [.l (an 2),.l (ag s),.l (ag t)] (m.st R) (ae (if w=(t:Int) then 1 else 0)) [] (m.st R):=yW.of _ _ fun n l=>by
 have u:=r7 (m:=m) (R:=R) p f n (bl l rfl);have v:=Oi (m:=m) f h q d (pV j rfl) (pV k rfl) r n l;replace h:=dF h;replace d:=dF d;have g:=eI (a:=ae a) (x:=x);have G:=eI (a:=ae b) (x:=y);have c:=f.b
 have o:∀a:Int,(a=1∨a=2∨a=3∨a=4)→cZ (ae a) (.j [ae 6,ae 7,ae 10,ae 14,ae 15,ae 16,ae 17,ae 18,ae 19])=ac ai∧cZ (ae a) (.j [ae 1,ae 2,ae 3,ae 4,ae 5])=ac true:=
  fun a e=>by rcases e with e|e|e|e<;>(subst e;exact⟨rfl,rfl⟩)
 obtain⟨i,I⟩:=o a j;obtain⟨z,A⟩:=o b k;exact aw 16 [.call u,.get h,.get g,.get d,.get G,.has i,.has z,.C c,.has A,.has I,.call v]
theorem Qu {m:bh} (j:gc s) (f:gc t) (h:R[s]? =ac (.j (ae a::x))) (d:R[t]? =ac (.j (ae b::y)))
  (k:a=11∨a=12) (l:b=1∨b=2∨b=3∨b=4):
  aE 2 209 [.l (an 2),.l (ag s),.l (ag t)] (m.st R) (ae 0) [] (m.st R):=yW.of _ _ fun n o=>by
 have p:=r7 (m:=m) (R:=R) j f n (bl o rfl);replace h:=dF h;replace d:=dF d;have g:=eI (a:=ae a) (x:=x);have G:=eI (a:=ae b) (x:=y);have c:=f.b;have i:cZ (ae a) (.j [ae 6,ae 7,ae 10,ae 14,ae 15,ae 16,ae 17,ae 18,ae 19])=ac ai∧cZ (ae a) (.j [ae 1,ae 2,ae 3,ae 4,ae 5])=ac false:=by
  rcases k with e|e<;>(subst e;exact⟨rfl,rfl⟩)
 have I:cZ (.int b) (.j [.int 6,.int 7,.int 10,.int 14,.int 15,.int 16,.int 17,.int 18,.int 19])=some false∧cZ (.int b) (.j [.int 1,.int 2,.int 3,.int 4,.int 5])=some true:=by
  rcases l with e|e|e|e<;>(subst e;exact⟨rfl,rfl⟩)
 obtain⟨i,q⟩:=i;obtain⟨I,r⟩:=I;exact aw 16 [.call p,.get h,.get g,.get d,.get G,.has i,.has I,.C c,.has r,.has q]
theorem Pm {m:bh} (f:gc s) (j:gc t) (l:¬(s:Int)=4) (o:¬(s:Int)=5) (h:R[s]? =ac (.j (ae a::x))) (d:R[t]? =ac (.j (ae b::y)))
  (p:a=11∨a=12) (q:b=11∨b=12):
  aE 2 209 [.l (an 2),.l (ag s),.l (ag t)] (m.st R) (ae (-1)) [] (m.st R):=yW.of _ _ fun n r=>by
 have u:=r7 (m:=m) (R:=R) f j n (bl r rfl);replace h:=dF h;replace d:=dF d;have g:=eI (a:=ae a) (x:=x);have G:=eI (a:=ae b) (x:=y);have c:=j.b;have C:=f.n3
 have k:∀a:Int,(a=11∨a=12)→cZ (ae a) (.j [ae 6,ae 7,ae 10,ae 14,ae 15,ae 16,ae 17,ae 18,ae 19])=ac ai∧cZ (ae a) (.j [ae 1,ae 2,ae 3,ae 4,ae 5])=ac false:=
  fun a e=>by rcases e with e|e<;>(subst e;exact⟨rfl,rfl⟩)
 obtain⟨i,w⟩:=k a p;obtain⟨I,v⟩:=k b q;exact aw 16 [.call u,.get h,.get g,.get d,.get G,.has i,.has I,.C c,.has v,.C l,.C o,.C C]
theorem wY {m:bh}:aE 1 204 [.l (an 2),.l (ag s),.l (ag s)] (m.st R) (aA af) [] (m.st R):=yW.of _ _ fun n h=>by
 have c:(s:Int)=s:=rfl;exact aw 0 [.eq c]
theorem zZ {m:bh} {s t:Nat} (b:¬(s:Int)=t) (c:R[s]? =ac r) (d:ib r) (e:R[t]? =ac f) (i:ib f) (j:k=0∨k=1)
  (h:aE 4 209 [.l (an 2),.l (ag s),.l (ag t)] (m.st R) (ae k) [] (m.st R)):
  aE 5 204 [.l (an 2),.l (ag s),.l (ag t)] (m.st R) (aA (aM (k=1))) [] (m.st R):=yW.of _ _ fun n a=>by
 have h:=h n a;have g:aZ n 203 [.l (an 1),.l (ag s)] (m.st R) (ag s) [] (m.st R):=mz c d n (bl a rfl);have G:aZ n 203 [.l (an 1),.l (ag t)] (m.st R) (ag t) [] (m.st R):=mz e i n (bl a rfl);rcases j with rfl|rfl<;>exact aw 65536 [.C b,.call g,.call G,.C b,.call h]
theorem v_ {m:bh} {s t:Nat} (c:¬(s:Int)=t) (e:R[s]? =ac r) (f:ib r) (i:R[t]? =ac j) (l:ib j)
  (a:aE 3 209 [.l (an 2),.l (ag s),.l (ag t)] (m.st R) (ae (-1)) [] (m.st R))
  (q:aE k 205 [.l (an 2),.l (ag s),.l (ag t)] (m.st R) d [] st') (b:3≤k):aE (k+1) 204 [.l (an 2),.l (ag s),.l (ag t)] (m.st R) d [] st':=yW.of _ _ fun n h=>by
 have a:=a n (ao b h);have q:=q n h;have g:aZ n 203 [.l (an 1),.l (ag s)] (m.st R) (ag s) [] (m.st R):=mz e f n (ao b h);have G:aZ n 203 [.l (an 1),.l (ag t)] (m.st R) (ag t) [] (m.st R):=mz i l n (ao b h);exact aw 4259840 [.C c,.call g,.call G,.C c,.call a,.call q]
theorem FX:∀(l:List (Nat×Nat)),hX (l.map bc) (l.map bc)=true:=by
 intro l;induction l with
 |nil=>rfl
 |cons p l i=>
  refine(?_:(aj.beq (bc p) (bc p)&&hX (l.map bc) (l.map bc))=af);rw[i,ml];simp
theorem yH {r:List ((Nat×Nat)×Bool)} (h:l.lookup p=ah) (a:r.lookup p=ah):(l++r).lookup p=none:=by
 induction l with
 |nil=>exact a
 |cons q l i=>
  obtain⟨k,v⟩:=q;rw[fP] at h;rw[List.cons_append,fP];induction b:p==k with
  |true=>rw[b] at h;injection h
  |false=>rw[b] at h;exact i h
theorem NA:∀{l:List (Nat×Nat)},p∉l→(l.map fun q=>(q,b)).lookup p=none:=by
 intro l;induction l with
 |nil=>
  intro _;rfl
 |cons q l i=>
  exact fun h=>ak eE (ak fP (ak (c5.mpr (fun e:p=q=>h (e▸kZ))) (i fun m=>h (je _ m))))
theorem Hx {m:bh} {c:Bool} (a:m.tr.Nodup) (k:∀p∈m.tr,m.K.lookup p=ah) (i:m.tr.length≤100000) (j:m.K.length≤100000):
  aE 1 206 [.l (an 2),.l (aA c)] (m.st R) (a4) [] ({m with tr:=[],K:=m.K++if c then m.tr.map (fun p=>(p,af)) else[]}.st R):=yW.of _ _ fun n v=>by
 obtain⟨x,o,l⟩:=hr (n:=n) (g:=206) (b:=ac (2,15)) [0] bc m.tr (fun _ _=>[(27,.l (an 2)),(38,.l (aA c))]) (fun d x=>{m with K:=m.K++if c then d.map (fun p=>(p,af)) else[]}.stY x R) (fun d x=>m.tr=d++x) m.tr rfl rfl fun d p r x e h=>by
  obtain rfl:x=p::r:=Du (h.symm.trans e);have f:(ou (bc p) (cE (p::r))).e=ac (a4,.e (cE r)):=by
   refine((ak (vq (by simp)) (ak B' ?_)):(if(cT (bc p) (cE (p::r))&&dA (bc p) (cE (p::r)))=af then ac (a4,b0.e (hR (bc p) (cE (p::r)))) else ah)=_);rfl
  refine hK r a' (by refine ak e ?_;simp) (av rfl) (?_) (FX _);induction c with
  |true=>
   have q:(m.K++d.map fun p=>(p,af)).lookup p=none:=yH (k p (eO e)) (NA (by
    rw[e] at a;exact fun s=>(ke.mp a).2.2 p s p (by simp) rfl))
   have t:=uN (b:=af) q (by
    have:=aS gK e;simp at this⊢;exact b7 (.c 1 .b (.n 100000) (.c 1 .f (.n 100000) (.c 1 (.a .g (.a .j .n1)) .b (.g 1 (.a .f .g) (.n 1000000))))) rfl i j (a9 (cB this)))
   have E:m.K++(d++[p]).map (fun p=>(p,af))=m.K++d.map (fun p=>(p,af))++[(p,af)]:=by simp
   refine(?_:fc _ _ _ _ _ _ _ _ _ ({m with K:=m.K++(d++[p]).map (fun p=>(p,af))}.stY r R));refine ak E ?_;exact bq 16 [.I f,.set t]
  |false=>exact bq 0 [.I f]
 obtain rfl:x=[]:=Du (o.symm.trans (c8 _).symm);have u:(m.K++if c then([]:List (Nat×Nat)).map (fun p=>(p,af)) else[])=m.K:=by induction c<;>simp
 simp only[u] at l;exact aw 0 [.sub l]
noncomputable def bh.into (m:bh) (p:Nat×Nat):bh:={m with a:=m.a+1,tr:=m.tr++[p],dp:=m.dp+1}
noncomputable def bh.outF (m M:bh) (p:Nat×Nat):bh:={M with dp:=m.dp,N:=m.N,tr:=m.tr,K:=M.K++[(p,ai)]}
noncomputable def bh.outT (m M:bh):bh:=if m.tr=[] then{M with dp:=m.dp,tr:=[],K:=if M.N=m.N then M.K++M.tr.map (fun p=>(p,af)) else M.K} else{M with dp:=m.dp}
structure sN (m:bh):Prop where
 tr:m.tr.length≤50000
 K:m.K.length≤50000
 N:m.N≤1000000
theorem AZ {m:bh} (h:m.K.lookup (s,t)=ac b):aE 1 205 [.l (an 2),.l (ag s),.l (ag t)] (m.st R) (aA b) [] (m.st R):=yW.of _ _ fun n d=>by
 have a:cZ (.j [ag s,ag t]) (.e (eX m.K))=ac true:=by have:=qu (p:=(s,t)) (l:=m.K);rw[h] at this;exact this
 have c:ez (.e (eX m.K)) (.j [ag s,ag t])=ac (aA b):=by
  show(if cT (bc (s,t)) (eX m.K) then f3 (bc (s,t)) (eX m.K) else ah)=_
  rw[aJ tu,Cn,h];rfl
 exact aw 0 [.has a,.get c]
theorem CJ {m:bh} (h:m.K.lookup (s,t)=ah) (a:(s,t)∈m.tr):aE 1 205 [.l (an 2),.l (ag s),.l (ag t)] (m.st R) (aA af) [] (m.st R):=yW.of _ _ fun n d=>by
 have b:cZ (.j [ag s,ag t]) (.e (eX m.K))=ac false:=by have:=qu (p:=(s,t)) (l:=m.K);rw[h] at this;exact this
 have c:cZ (.j [ag s,ag t]) (.e (cE m.tr))=ac true:=by have:=v2 (p:=(s,t)) (l:=m.tr);exact cu a▸this
 exact aw 0 [.has b,.has c]
theorem KF (L:m.K.lookup (s,t)=ah) (A:(s,t)∉m.tr) (P:m.a<20000) (Q:m.dp<60) (B:sN m) (S:sN M)
  (h:aE k 215 [.l (an 2),.l (ag s),.l (ag t)] ((m.into (s,t)).st R) (aA b) [] (M.st r)) (T:2≤k) (U:M.dp=m.dp+1) (V:∃X,M.tr=m.tr++X) (D:M.tr.Nodup) (W:m.N≤M.N) (Z:M.K.lookup (s,t)=ah) (α:∀p∈M.tr,M.K.lookup p=ah):
  aE (k+1) 205 [.l (an 2),.l (ag s),.l (ag t)] (m.st R) (aA b) [] ((if b then m.outT M else m.outF M (s,t)).st r):=yW.of _ _ fun n E=>by
 have G:cZ (.j [ag s,ag t]) (.e (eX m.K))=ac false:=by have:=qu (p:=(s,t)) (l:=m.K);rw[L] at this;exact this
 have d:cZ (.j [ag s,ag t]) (.e (cE m.tr))=ac false:=by have:=v2 (p:=(s,t)) (l:=m.tr);exact cP A▸this
 have f:(vR.B fU (ag M.dp) (ae 1)).e=ac (ag m.dp):=by show ac (ae ((M.dp:Int)-1))=_;rw[U];simp
 have C:¬(20000:Int)≤(m.a:Int):=oa.mpr (g5.mpr P);have i:¬(60:Int)≤(m.dp:Int):=oa.mpr (g5.mpr Q);have x:m.tr.length≤1000000:=by have:=B.tr;exact dN (.c 1 .b (.n 50000) (.g 1 .b (.n 1000000))) rfl this
 have y:1≤n:=ao (bl T rfl) E;have j:=v5 (m:={m with a:=m.a+1}) (R:=R) B.N x n y;have o:=u2 (p:=(s,t)) A x;have u:fL 3 (.c (m.tr.map bc)) [.j [ag s,ag t]]=ac (a4,.c ((m.tr++[(s,t)]).map bc)):=by
  show(if(m.tr.map bc).length≤b4 then ac (a4,b0.c (m.tr.map bc++[bc (s,t)])) else ah)=_
  rw[aJ (by rw[aB];exact x),cm];rfl
 obtain⟨X,F⟩:=V;have β:m.tr.length≤M.tr.length:=by rw[F];simp
 have γ:M.tr.take m.tr.length=m.tr:=by rw[F,t_]
 have v:=h n E;cases b with
 |false=>
  have g:=ze (m:={M with dp:=m.dp}) (R:=r) D W β (jg S.tr (by decide)) n y;have I:gT (.e (eX M.K)) (.j [ag s,ag t]) (aA ai)=ac (.e (eX (M.K++[((s,t),ai)]))):=uN (p:=(s,t)) Z (by have:=S.K;exact dN (.c 1 .b (.n 50000) (.g 1 .b (.n 1000000))) rfl this);rw[show(({tr:=M.tr.take m.tr.length,K:=M.K,dp:=m.dp,a:=M.a,N:=m.N,tel:=M.tel,tw:=M.tw}:bh))={M with dp:=m.dp,N:=m.N,tr:=m.tr} by rw[γ]] at g;by_cases z:(m.tr.length:Int)=0;exact aw 18700288655360 [.has G,.has d,.D C,.D i,.D C,.call j,.set o,.u u,.call v,.B f,.call g,.eq z,.set I];exact aw 300175265366016 [.has G,.has d,.D C,.D i,.D C,.call j,.set o,.u u,.call v,.B f,.call g,.C z,.set I]
 |true=>
  by_cases z:(m.tr.length:Int)=0
  ·have g:=Hx (m:={M with dp:=m.dp}) (R:=r) (c:=(M.N:Int)==(m.N:Int)) D α (aD S.tr rfl) (aD S.K rfl) n y;have e:m.outT M={M with dp:=m.dp,tr:=[],K:=M.K++if(M.N:Int)==(m.N:Int) then M.tr.map (fun p=>(p,af)) else[]}:=by
    unfold bh.outT;rw[aJ (fs.mp (dh z))];by_cases q:M.N=m.N
    ·rw[aJ q,aJ (by rw[q];exact iX _)]
    ·rw[aL q,aL (c:=((M.N:Int)==(m.N:Int))=af) (fun w=>q (dh (iv w))),c8]
   rw[aJ rfl,e];exact aw 565157567660032 [.has G,.has d,.D C,.D i,.D C,.call j,.set o,.u u,.call v,.B f,.eq z,.p (ds:=cx M.N (aj.j [ae 3,ae 0])) kX (aD S.N rfl),.call g]
  ·rw[aJ rfl,show m.outT M={M with dp:=m.dp} from aL fun e=>z (by rw[e];rfl)];exact aw 2207614238720 [.has G,.has d,.D C,.D i,.D C,.call j,.set o,.u u,.call v,.B f,.C z]
noncomputable def cz (k k':List Nat):Bool:=k.all fun u=>k'.contains u||ce k' u
structure aK where
 hs:List (List Nat)
 os:List (List Nat)
 rs:List (List Nat)
 ts:List (List Nat)
 c:Nat
noncomputable def aK.els (l:aK):List (List Nat×Nat):=l.hs.map (·,0)++l.os.map (·,1)++l.rs.map (·,2)++l.ts.map (·,0)
inductive oG (R:List aj):List aj→List (List Nat×Nat)→Prop
 |nil:oG R [] []
 |cons {e:Nat} {k O:List Nat} {mk:Nat} {E:List aj} {l:List (List Nat×Nat)}:bH R e k O→oG R E l→oG R (.j [ag e,ag mk]::E) ((k,mk)::l)
structure aK.Ok (a:aK):Prop where
 rs:a.rs.length≤1
 ts:a.ts≠[]→a.rs≠[]
 nk:∀k∈a.hs++a.os++a.rs++a.ts,gh k∧8∉k
 c:a.c≤1
 alt:a.os=[]∨a.ts=[]
noncomputable def aK.fr (a:aK):Nat:=a.hs.length+a.os.length
def cg (R:List aj) (t:Nat) (l:aK):Prop:=
 l.Ok∧((∃e k O,R[t]? =ac (.j [ae 11,ag e,ag l.c])∧bH R e k O∧l.hs=[]∧l.os=[]∧l.rs=[k]∧l.ts=[])∨
 (∃E,R[t]? =ac (.j [ae 12,.j E,ag l.c])∧oG R E l.els∧0<l.fr))
def aK.let (l:aK) (n:Nat):Prop:=l.hs.length+l.ts.length≤n∧(l.rs≠[]∨n≤l.hs.length+l.os.length+l.ts.length)
noncomputable def aK.slot (l:aK) (n p:Nat):List Nat:=
 if p<l.hs.length then(l.hs[p]?).getD []
 else if p<l.hs.length+l.os.length then cM ((l.os[p-l.hs.length]?).getD []++[8])
 else if n≤p+l.ts.length then(l.ts[p+l.ts.length-n]?).getD []
 else(l.rs[0]?).getD []
def db (a b:aK):Prop:=a.c≤b.c∧∀n,a.let n→b.let n∧∀p,p<n→cz (a.slot n p) (b.slot n p)=af
def GT (R:List aj) (t:Nat):Prop:=∃(O:List Nat) (i:Nat) (l:aK),R[t]? =ac (.j [ae 6,.j (O.map ag)])∧i∈O∧cg R i l
def jV (R:List aj) (p:Nat×Nat) (b:Bool):Prop:=
 (∃k O a i,bH R p.1 k O∧bH R p.2 a i∧b=cz k a)∨(∃l L,cg R p.1 l∧cg R p.2 L∧(b=af↔db l L))∨((∃l,cg R p.1 l)∧GT R p.2)
structure eC (R:List aj) (Pr:List (Nat×Nat)) (m:bh):Prop where
 nd:m.tr.Nodup
 kt:∀p∈m.tr,m.K.lookup p=ah
 kok:∀p∈m.K,jV R p.1 p.2
 aok:∀p∈m.tr,p∉Pr→jV R p af
 len:m.K.length+m.tr.length≤m.a
 a:m.a≤20000
 N:m.N≤100000
structure dU (R:List aj) (Pr:List (Nat×Nat)) (m M:bh) (c:Nat):Prop where
 ok:eC R Pr M
 dp:M.dp=m.dp
 N:m.N≤M.N
 j:M.N≤m.N+c
 tel:M.tel=m.tel
 n:m.a≤M.a
 l:M.a≤m.a+c
 tr:∃X,M.tr=m.tr++X
 i:M.K.length+M.tr.length+m.a≤M.a+m.K.length+m.tr.length
 kf:m.tr≠[]→∀q∈M.K,q∈m.K∨q.2=ai
theorem dU.f (h:eC R Pr m):dU R Pr m m 0:=⟨h,rfl,bv _,bv _,rfl,bv _,bv _,⟨[],by simp⟩,b5 (.g 1 (.a (.a .b .f) .g) (.a (.a .g .b) .f)) rfl,fun _ _ h=>av h⟩
theorem Df {d:Nat} (a:y≤x+c) (b:z≤y+d):z≤x+(c+d):=ao b (ao (dc a d) (a9 (ev ..)))
theorem dU.trans {M:bh} (a:dU R Pr m M c) (b:dU r Pr M g d):dU r Pr m g (c+d):=
 ⟨b.ok,b.dp.trans a.dp,ao a.N b.N,Df a.j b.j,b.tel.trans a.tel,ao a.n b.n,Df a.l b.l,a.tr.elim fun X h=>b.tr.elim fun y k=>⟨X++y,by rw[k,h,ef]⟩,by have u:=a.i;have U:=b.i;exact qg (.c 1 (.a (.a .b .f) .g) (.a (.a .j .l) .o) (.c 1 (.a (.a .p .q) .j) (.a (.a .r .b) .f) (.g 1 (.a (.a .p .q) .g) (.a (.a .r .l) .o)))) rfl u U,fun h q o=>(b.kf (by obtain⟨X,e⟩:=a.tr;rw[e];simp[h]) q o).elim (a.kf h q) aI⟩
theorem dU.le (a:dU R Pr m M c) (h:c≤d):dU R Pr m M d:=⟨a.ok,a.dp,a.N,by have:=a.j;exact b7 (.c 1 .b .f (.c 1 .g (.a .j .b) (.g 1 .g (.a .j .f)))) rfl h this,a.tel,a.n,by have:=a.l;exact b7 (.c 1 .b .f (.c 1 .g (.a .j .b) (.g 1 .g (.a .j .f)))) rfl h this,a.tr,a.i,a.kf⟩
structure iV (R:List aj) (Pr:List (Nat×Nat)) (m M:bh) (c:Nat):Prop extends dU R Pr m M c where
 eN:M.N=m.N
 tw:M.tw=m.tw
theorem iV.f (h:eC R Pr m):iV R Pr m m 0:=⟨.f h,rfl,rfl⟩
theorem iV.trans (a:iV R Pr m M c) (b:iV r Pr M e d):iV r Pr m e (c+d):=⟨a.todU.trans b.todU,b.eN.trans a.eN,b.tw.trans a.tw⟩
theorem iV.le (a:iV R Pr m M c) (h:c≤d):iV R Pr m M d:=⟨a.todU.le h,a.eN,a.tw⟩
theorem oG.mono (e:bL R r) (h:oG R E l):oG r E l:=h.rec .nil fun a _ i=>.cons (a.mono e) i
theorem cg.mono (e:bL R r) (h:cg R t l):cg r t l:=⟨h.1,h.2.imp (fun z=>jS z fun x k O h p q=>mT x k O (e.at h) (p.mono e) q) fun z=>eA z fun E h p q=>g2 E (e.at h) (p.mono e) q⟩
theorem jV.mono (e:bL R r) (h:jV R p b):jV r p b:=
 h.imp (fun z=>IB z fun k O f I a b c=>BZ k O f I (a.mono e) (b.mono e) c) fun h=>h.imp (fun z=>cF z fun l L a b c=>es l L (a.mono e) (b.mono e) c) fun z=>z.elim fun Z g=>Z.elim fun l a=>jS g fun O i L b c d=>⟨⟨l,a.mono e⟩,O,i,L,e.at b,c,d.mono e⟩
theorem eC.mono (e:bL R r) (h:eC R Pr m):eC r Pr m:=⟨h.nd,h.kt,fun p b=>(h.kok p b).mono e,fun p b q=>(h.aok p b q).mono e,h.len,h.a,h.N⟩
theorem eC.small (h:eC R Pr m):sN m:=⟨by have:=h.len;have:=h.a;lia,by have:=h.len;have:=h.a;lia,by have:=h.N;exact dN (.c 1 .b (.n 100000) (.g 1 .b (.n 1000000))) rfl this⟩
theorem bH.head (h:bH R t k O):∃a x,R[t]? =ac (.j (ae a::x))∧(a=1∨a=2∨a=3∨a=4∨a=6):=by
 rcases h.pt.2 with⟨r,w,g,_,e⟩|⟨g,_⟩
 ·refine ay (h.to t (by rw[e];simp)) fun u _ b=> ?_;have:∀u,u<9→∃a x,io u=.j (ae a::x)∧(a=1∨a=2∨a=3∨a=4):=fun u b=>q6 (P:=fun u=>∃a x,io u=.j (ae a::x)∧(a=1∨a=2∨a=3∨a=4)) (CL (cN 4 _ rfl (aI (aI (aI rfl)))) (cN 4 _ rfl (aI (aI (aI rfl)))) (cN 3 _ rfl (aI (aI (av rfl)))) (cN 2 _ rfl (aI (av rfl))) (cN 2 _ rfl (aI (av rfl))) (cN 1 _ rfl (av rfl)) (cN 1 _ rfl (av rfl)) (cN 1 _ rfl (av rfl)) (cN 1 _ rfl (av rfl))) u b;exact bK (this u b.2) fun a x E i=>cN a x (b.1.trans (aS ac E)) (i.imp_right fun h=>h.imp_right fun h=>h.imp_right av)
 ·exact cN 6 _ g (aI (aI (aI (aI rfl))))
theorem cg.head (h:cg R t l):∃a x,R[t]? =ac (.j [ae a,x,ag l.c])∧(a=11∨a=12):=by
 rcases h.2 with⟨e,k,O,h,_⟩|⟨E,h,_⟩
 ·exact cN 11 _ h (.inl rfl)
 ·exact cN 12 _ h (.inr rfl)
theorem bH.notLI (h:bH R t k O) (h':cg R t l):False:=by
 refine bK h.head fun a x g i=>bK h'.head fun b y j m=> ?_;have e:=aj.int.inj (rn (aj.j.inj (bD (g.symm.trans j)))).1;have l:aM (a<10)=true:=i.elim (fun e=>e▸rfl) fun h=>h.elim (fun e=>e▸rfl) fun h=>h.elim (fun e=>e▸rfl) fun h=>h.elim (fun e=>e▸rfl) fun e=>e▸rfl;have L:aM (b<10)=false:=m.elim (fun e=>e▸rfl) fun e=>e▸rfl;exact cp (L.symm.trans (e▸l))
theorem jV.plain (I:aW R) (h:jV R (s,t) b) (c:bH R s k O) (d:bH R t k' i):b=cz k k':=by
 rcases h with⟨j,g,m,n,a,f,e⟩|⟨l,L,a,_⟩|⟨⟨l,a⟩,_⟩
 ·rw[e,(mL I c a).1,(mL I d f).1]
 ·exact(c.notLI a).elim
 ·exact(c.notLI a).elim
theorem bH.f (h:bH R t k O):∃row,R[t]? =ac row∧ib row:=by
 rcases h.pt.2 with⟨row,w,a,b,_⟩|⟨a,_⟩
 ·exact⟨row,a,.a b⟩
 ·exact bd _ a (.un _)
theorem Cg (h:i≠0) (a:i≠1) (b:i≠2) (c:i≠3) (d:i≠10) (f:i≠13):gc i:=
 ⟨fun e=>h (dh e),fun e=>a (dh e),fun e=>b (dh e),fun e=>c (dh e),fun e=>d (dh e),fun e=>f (dh e)⟩
theorem PF:((cv 16).all fun j=>j==12|| !(((dT[j]?.bind (aj.sq [])).bind fun q=>ez q (ae 0)).any (aj.beq (ae 6))))=true:=by decide+kernel
theorem l6 (h:i∉[0,1,2,3,10,11,12,13,14,15]):gc i:=by
 have f (j:Nat) (a:aM (j∈[0,1,2,3,10,11,12,13,14,15])=af):i≠j:=fun e=>h (e▸dB a);exact Cg (f 0 rfl) (f 1 rfl) (f 2 rfl) (f 3 rfl) (f 10 rfl) (f 13 rfl)
theorem bH.far (I:aW R) (h:bH R t k O):gc t:=by
 rcases h.pt.2 with⟨r,w,a,m,e⟩|⟨a,l⟩
 ·refine ay (h.to t (by refine ak e ?_;simp)) fun u _ g=> ?_;exact l6 (g.far I)
 ·have n (j:Nat) (b:j<16) (i:(j==12)=ai):t≠j:=fun e=>by
   rw[e,I.at b] at a;have:=cH.mp PF j (hB.mpr b);rw[a,i] at this;exact cp this
  exact Cg (n 0 (aY rfl) rfl) (n 1 (aY rfl) rfl) (n 2 (aY rfl) rfl) (n 3 (aY rfl) rfl) (n 10 (aY rfl) rfl) (n 13 (aY rfl) rfl)
theorem cq.head (h:cq R i u):∃a x,R[i]? =ac (.j (ae a::x))∧(a=1∨a=2∨a=3∨a=4)∧ju (.j (ae a::x)) (i4 u):=by
 have:∀u,u<9→∃a x,io u=.j (ae a::x)∧(a=1∨a=2∨a=3∨a=4):=fun u b=>q6 (P:=fun u=>∃a x,io u=.j (ae a::x)∧(a=1∨a=2∨a=3∨a=4)) (CL (cN _ _ rfl (aI (aI (aI rfl)))) ((cN _ _ rfl (aI (aI (aI rfl))))) ((cN _ _ rfl (aI (aI (av rfl))))) ((cN _ _ rfl (aI (av rfl)))) ((cN _ _ rfl (aI (av rfl)))) ((cN _ _ rfl (av rfl))) ((cN _ _ rfl (av rfl))) ((cN _ _ rfl (av rfl))) ((cN _ _ rfl (av rfl)))) u b;refine bK (this u h.2) fun a x e c=> ?_;have:=sF u h.2;rw[e] at this;exact es a x (by rw[h.1,e]) c this
theorem xK {O:List Nat}:(O.map ag).all (aj.plain n)=true:=cH.mpr fun x h=>(cr.mp h).elim fun i e=>e.2▸(by induction n<;>rfl)
theorem qD {O:List Nat}:cZ (ag i) (.j (O.map ag))=ac (O.contains i):=by
 have b:(aj.plain 8 (ag i)&&(O.map ag).all (aj.plain 8))=true:=by
  rw[fu];exact⟨rfl,xK⟩
 show(if(aj.plain 8 (ag i)&&(O.map ag).all (aj.plain 8))=af then ac ((O.map ag).any fun x=>aj.beq x (ag i)) else ah)=_
 rw[aJ b,List.any_map];congr 1;induction O with
 |nil=>rfl
 |cons a r I=>
  simp only[So,Function.comp_apply,RN,my];rw[show(r.any ((fun x=>aj.beq x (ag i))∘ag))=r.contains i from I (by rw[fu];exact⟨rfl,xK⟩)];congr 1;by_cases h:a=i
  ·subst h;simp
  ·have c:¬i=a:=fun e=>h e.symm;simp[h,c5.mpr c]
theorem yW.up (h:aE j g a Y d cs st') (b:j≤k):aE k g a Y d cs st':=fun n c=>h n (ao b c)
noncomputable def pY:Option aj→cR
 |none=>a'
 |some d=>.h d
theorem sY {N:Nat→Prop} (p:List Nat) (f:u→aj) (l:List u) (F:m→au) (S:m→ar) (I:List u→m→Prop) (Q:cR→m→Prop) (k:m) (i:I [] k) (v:ky g p=af)
  (s:∀D j r1 x,l=D++j::r1→I D x→∃X a,(∀n,N n→fc n g p (he (F k)) (f j) (F x) (S x) a (F X) (S X))∧((a=a'∨a=iz)∧I (D++[j]) X∧gy b (l.map f) (S X)=af∨qZ a=af∧Q (qB a) X))
  (z:∀x,I l x→Q a' x):∃a x,Q a x∧∀n,N n→ca bw (aZ n) (dR g p b (l.map f) (F k) (S k)) a (F x) (S x):=by
 unfold ky at v;unfold fc qa at s;unfold dR;generalize mw g p=q at v s;obtain⟨c,t,B⟩:=q;induction c with
 |some _=>exact(by injection v)
 |none=>
  have w:∀(r d:List u) (x:m),l=d++r→I d x→∃a y,Q a y∧∀n,N n→aQ (dy bw (aZ n) (qe (nP g) p)) (·=(a,F y,S y)) (kU (e6 bw (qe (nP g) p)) B t (gy b (l.map f)) (he (F k)) (r.map f) (F x) (S x) dV):=by
   intro r;induction r with
   |nil=>exact fun d x e h=>⟨a',x,z x (by rw[e,c8];exact h),fun _ _=>rfl⟩
   |cons j r A=>
    refine fun d x e h=>bK (s d j r x e h) fun X a T h=> ?_;rcases h with h|h
    ·exact bK (A _ X (e.trans (List.append_cons ..)) h.2.1) fun C y q w=>cN C y q (fun n o=>tf (T n o) h.1 h.2.2 (w n o))
    ·exact cN _ X h.2 (fun n o=>CS (T n o) h.1 rfl)
  exact w l [] k rfl i
theorem l4 {n:Nat} {a:Type} (p:List Nat) (f:a→aj) (l:List a) (res:a→Option aj) (L:au) (Y:ar) (c:ky g p=af) (s:gy b (l.map f) Y=af)
  (S:∀j∈l,fc n g p (he L) (f j) L Y (pY (res j)) L Y):ca bw (aZ n) (dR g p b (l.map f) L Y) (pY (l.findSome? res)) L Y:=by
 obtain⟨_,_,rfl,w⟩:=sY (N:=(·=n)) p f l (fun _:Unit=>L) (fun _=>Y) (fun d _=>d.findSome? res=ah) (fun F _=>F=pY (l.findSome? res)) () rfl c (fun D j R x e h=>⟨(),_,fun _ q=>q▸S j (eO e),by
  induction r:res j with
  |none=>exact av ⟨av rfl,by rw[Rn,h,xX,r];rfl,s⟩
  |some d=>exact aI ⟨rfl,by rw[e,Rn,h,xX,r];rfl⟩⟩) fun x h=>by rw[h];rfl
 exact w n rfl
theorem tA (l:List b) (p:b→Bool) (d:aj):l.findSome? (fun j=>if p j then ac d else ah)=if l.any p then ac d else none:=by
 induction l with
 |nil=>rfl
 |cons a l i=>refine ak (xX) (ak So (ak i ?_));cases p a<;>rfl
theorem ni {m:bh} (h:aE k 204 [.l (an 2),.l (ag s),.l (ag t)] (m.st R) d [] st'):aE (k+1) 4921 [.l (an 2),.l (ag s),.l (ag t)] (m.st R) d [] st':=yW.of _ _ fun n a=>by
 have h:=h n a;exact aw 0 [.call h]
theorem KB [Decidable P]:(if P then(1:Int) else 0)=1↔P:=by by_cases h:P<;>simp[h]
theorem MX:ce [v] u=af↔(u<2∧v=6)∨(u=2∧v=7):=by
 simp only[ce,RN,List.contains_nil,Sr,dK,fu,dL];exact or_congr (and_congr ⟨fun h=>h.elim (fun e=>e▸aY rfl) fun e=>e▸aY rfl,fun h=>(x2 (iW h)).imp_left Nat.lt_one_iff.mp⟩ eq_comm) (and_congr .rfl eq_comm)
theorem FN {j:Nat}:i4 u=(j:Int)↔(u<2∧j=7)∨(u=2∧j=6):=by
 match u with
 |0=>exact⟨fun h=>av ⟨aY rfl,(dh h).symm⟩,fun h=>h.elim (fun h=>by rw[h.2];rfl) fun h=>aR h.1 (by decide)⟩
 |1=>exact⟨fun h=>av ⟨aY rfl,(dh h).symm⟩,fun h=>h.elim (fun h=>by rw[h.2];rfl) fun h=>aR h.1 (by decide)⟩
 |2=>exact⟨fun h=>aI ⟨rfl,(dh h).symm⟩,fun h=>h.elim (fun h=>aR h.1 (by decide)) fun h=>by rw[h.2];rfl⟩
 |u+3=>exact⟨fun h=>(nomatch(h)),fun h=>h.elim (fun h=>aR (q8 (q8 h.1)) (kY _)) fun h=>aR (uc (uc h.1)) (D6 _)⟩
theorem BX {m:bh} {R:List aj} (I:aW R) (c:cq R i u) (h:cq R j v):aE 6 4921 [.l (an 2),.l (ag i),.l (ag j)] (m.st R) (aA (cz [u] [v])) [] (m.st R):=ni (by
 have d:=I.un;by_cases f:i=j
 ·subst f;exact ak (c.code h) (ak (show cz [v] [v]=af by simp[cz]) (wY.up (aY rfl)))
 ·refine cF c.head fun a x g l w=>cF h.head fun b y k n o=> ?_;have p:i=4→i4 u= -1:=fun e=>by subst e;refine ak (c.code d.1) ?_;rfl
  have:=zZ (m:=m) (fun e=>f (dh e)) g (.a w) k (.a o) (by split<;>simp) (L8 (l6 (c.far I)) (l6 (h.far I)) g w k l n p);have e:cz [u] [v]=aM ((if i4 u=(j:Int) then(1:Int) else 0)=1):=by
   have q:(v==u)=false:=c5.mpr fun e=>f (by subst e;exact c.inj I h);have r:v=6↔j=7:=⟨fun e=>h.inj I (e▸d.2.2.2.1),fun e=>by subst e;exact h.code d.2.2.2.1⟩;have s:v=7↔j=6:=⟨fun e=>h.inj I (e▸d.2.2.1),fun e=>by subst e;exact h.code d.2.2.1⟩;have E:cz [u] [v]=ce [v] u:=by simp[cz,oh (c5.mp q)]
   rw[E,ji,MX,k0,KB,FN,r,s]
  refine ak e ?_;exact this)
theorem Kg {js:List Nat} (h:∀j∈js,aE (k+1) 4921 [.l (an 2),.l (ag s),.l (ag j)] (m.st R) (aA (res j)) [] (m.st R)) (S:sN m):
  aE (k+2) 218 [.l (an 2),.l (ag s),.l (.j (js.map ag))] (m.st R) (aA (js.any res)) [] (m.st R):=yW.of _ _ fun n a=>by
 have G:=v5 (R:=R) S.N (aD S.tr rfl) n (ao (gH _ _) a);have l:=l4 (g:=218) (b:=ah) [1] ag js (fun j=>if res j then ac (aA af) else ah) [(27,.l (an 2)),(29,.l (ag s)),(23,.l (.j (js.map ag))),(40,.l a4)] (m.st R) rfl rfl fun j c=>by
  have h:=h j c n a;cases r:res j<;>rw[r] at h
  ·exact bq 0 [.call G,.call h]
  ·exact bq 4352 [.call G,.call h,.p (ds:=cx m.N (aj.j [ae 3,ae 0])) kX (aD S.N rfl),.eq (i:=(m.N:Int)) rfl]
 rw[tA] at l;cases e:js.any res<;>rw[e] at l<;>exact aw 0 [.sub l]
theorem wl (o:eC R Pr m) (e:bL R r) (G:m.K.lookup (s,t)=ah) (A:(s,t)∉m.tr) (I:2≤k) (n:m.a<20000) (L:m.dp<60) (Q:m.tr≠[]∨Pr=[])
  (h:aE k 215 [.l (an 2),.l (ag s),.l (ag t)] ((m.into (s,t)).st R) (aA b) [] (M.st r)) (g:dU r ((s,t)::Pr) (m.into (s,t)) M c) (v:jV r (s,t) b):
  ∃j,aE (k+1) 205 [.l (an 2),.l (ag s),.l (ag t)] (m.st R) (aA b) [] (j.st r)∧dU r Pr m j (c+1)∧j.tw=M.tw∧(b=af→j.N=M.N)∧(b=ai→j.N=m.N∧j.tr=m.tr):=by
 have N:=g.N;refine g.tr.elim fun X d=> ?_;have d:M.tr=m.tr++([(s,t)]++X):=by rw[d];show(m.tr++[(s,t)])++X=_;rw[ef]
 have S:(s,t)∈M.tr:=by rw[d];simp
 have T:=g.dp;have l:=g.tel;have w:m.a+1≤M.a:=g.n;have i:M.a≤m.a+1+c:=g.l;have u:M.K.length+M.tr.length+(m.a+1)≤M.a+m.K.length+(m.tr++[(s,t)]).length:=g.i;have B:M.tr.length=m.tr.length+1+X.length:=by rw[d];simp;exact e8 (cD (.g 1 (.a .b (.a .f .n1)) (.a (.a .b .n1) .f)) rfl) (cD (.g 1 (.a (.a .b .n1) .f) (.a .b (.a .f .n1))) rfl)
 simp at u;refine vz _ (KF G A n L o.small g.ok.small h I T ⟨_,d⟩ g.ok.nd N (g.ok.kt _ S) g.ok.kt) (?_) (?_) (?_) (?_)
 ·cases b with
  |false=>
   refine⟨⟨o.nd,fun p a=> ?_,fun p a=> ?_,fun p a q=>(o.aok p a q).mono e, ?_,g.ok.a,o.N⟩,rfl,bv _,by show m.N≤_;exact cD (.g 1 .b (.a .b (.a .f .n1))) rfl,l, ?_, ?_,⟨[],by show m.tr=_;simp⟩, ?_,fun _ q f=> ?_⟩
   ·refine yH (g.ok.kt p (by rw[d];exact cG _ a)) ?_;rw[fP,c5.mpr (fun e:p=(s,t)=>A (e▸a))];rfl
   ·rcases dD.mp a with a|a
    ·exact g.ok.kok p a
    ·rw[List.mem_singleton.mp a];exact v
   ·show(M.K++[((s,t),false)]).length+m.tr.length≤M.a;have:=o.len;simp;exact lz (.c 1 (.a (.a .b .n1) .f) .g (.c 1 (.a (.a .j .g) (.a .l .n1)) (.a (.a .o .p) (.a .b .n1)) (.c 1 (.a .p .b) .l (.g 1 (.a (.a .j .n1) .b) .o)))) rfl (Nat.le_of_eq (Eq.symm B)) u this
   ·show m.a≤M.a;exact cD (.c 1 (.a .b .n1) (.n 20000) (.c 19999 (.a .b .n1) .f (.g 20000 .b .f))) rfl n w
   ·show M.a≤_;exact b5 (.c 1 .b (.a (.a .f .n1) .g) (.g 1 .b (.a .f (.a .g .n1)))) rfl i
   ·show(M.K++[((s,t),false)]).length+m.tr.length+m.a≤M.a+m.K.length+m.tr.length;simp;exact lz (.c 1 (.a (.a .b .n1) .f) .g (.c 1 (.a (.a .j .g) (.a .l .n1)) (.a (.a .o .p) (.a .b .n1)) (.g 1 (.a (.a (.a .j .n1) .b) .l) (.a (.a .o .p) .b)))) rfl (Nat.le_of_eq (Eq.symm B)) u
   ·rcases List.mem_append.mp f with f|f
    ·exact g.kf (by simp[bh.into]) q f
    ·exact ak (List.mem_singleton.mp f) (.inr rfl)
  |true=>
   refine ak (aJ rfl) ?_;by_cases z:m.tr=[]
   ·have P:=Q.resolve_left fun h=>h z;subst P;have E:m.outT M={M with dp:=m.dp,tr:=[],K:=if M.N=m.N then M.K++M.tr.map (fun p=>(p,af)) else M.K}:=aJ z
    refine ak E ?_;have C:(if M.N=m.N then M.K++M.tr.map (fun p=>(p,af)) else M.K).length≤M.K.length+M.tr.length:=by split<;>simp
    refine⟨⟨h7,(fun p a=>(by cases a)),fun p a=> ?_,(fun p a=>(by cases a)), ?_,g.ok.a,g.ok.N⟩,rfl,N,by have h:M.N≤m.N+c:=g.j;show M.N≤_;exact b5 (.c 1 .b (.a .f .g) (.g 1 .b (.a .f (.a .g .n1)))) rfl h,l, ?_, ?_,⟨[],by refine ak z ?_;rfl⟩, ?_,fun h=>aR z h⟩
    ·have a:p∈(if M.N=m.N then M.K++M.tr.map (fun p=>(p,af)) else M.K):=a
     split at a
     ·rcases dD.mp a with a|a
      ·exact g.ok.kok p a
      ·refine ay (List.mem_map.mp a) fun q f y=> ?_;subst y;by_cases D:q=(s,t)
       ·exact ak D v
       ·exact g.ok.aok q f fun x=>D (bW.mp x)
     ·exact g.ok.kok p a
    ·show(if M.N=m.N then M.K++M.tr.map (fun p=>(p,af)) else M.K).length+0≤M.a
     have:=g.ok.len;exact b7 (.c 1 .b (.a .f .g) (.c 1 (.a .f .g) .j (.g 1 (.a .b .n0) .j))) rfl C this
    ·show m.a≤M.a;exact cD (.c 1 (.a .b .n1) (.n 20000) (.c 19999 (.a .b .n1) .f (.g 20000 .b .f))) rfl n w
    ·show M.a≤_;exact b5 (.c 1 .b (.a (.a .f .n1) .g) (.g 1 .b (.a .f (.a .g .n1)))) rfl i
    ·show(if M.N=m.N then M.K++M.tr.map (fun p=>(p,af)) else M.K).length+0+m.a≤M.a+m.K.length+m.tr.length
     exact lz (.c 1 (.a (.a .b .f) (.a .g .n1)) (.a (.a .j .l) (.a .o .n1)) (.c 1 .p (.a .b .f) (.g 1 (.a (.a .p .n0) .g) (.a (.a .j .l) .o)))) rfl u C
   ·have E:m.outT M={M with dp:=m.dp}:=aL z;refine ak E ?_;refine⟨⟨g.ok.nd,g.ok.kt,g.ok.kok,fun p a q=> ?_,g.ok.len,g.ok.a,g.ok.N⟩,rfl,N,by have h:M.N≤m.N+c:=g.j;show M.N≤_;exact b5 (.c 1 .b (.a .f .g) (.g 1 .b (.a .f (.a .g .n1)))) rfl h,l, ?_, ?_,⟨_,d⟩, ?_,fun _=>g.kf (by simp[bh.into])⟩
    ·by_cases F:p=(s,t)
     ·exact ak F v
     ·exact g.ok.aok p a fun x=>(eS.mp x).elim F q
    ·show m.a≤M.a;exact cD (.c 1 (.a .b .n1) (.n 20000) (.c 19999 (.a .b .n1) .f (.g 20000 .b .f))) rfl n w
    ·show M.a≤_;exact b5 (.c 1 .b (.a (.a .f .n1) .g) (.g 1 .b (.a .f (.a .g .n1)))) rfl i
    ·lia
 ·cases b with
  |false=>rfl
  |true=>show(m.outT M).tw=_;unfold bh.outT;split<;>rfl
 ·rintro rfl;show(m.outT M).N=_;unfold bh.outT;split<;>rfl
 ·rintro rfl;exact⟨rfl,rfl⟩
theorem HY {R:List aj} {k:Nat} (l:R[i]? =ac (.j (ae a::x))) (b:a=1∨a=2∨a=3∨a=4) (p:gY R t O)
  (h:∀j∈O,aE (k+1) 4921 [.l (an 2),.l (ag i),.l (ag j)] (m.st R) (aA (res j)) [] (m.st R)) (S:sN m):
  aE (k+3) 220 [.l (an 2),.l (ag i),.l (ag t)] (m.st R) (aA (O.contains i||O.any res)) [] (m.st R):=yW.of _ _ fun n f=>by
 have G:aZ n 165 [.l (an 0),.l (ag t)] (m.st R) (.j (O.map ag)) [] (m.st R):=jx p n (ao (gH _ _) f);have d:=Kg h S n f;have g:=qD (i:=i) (O:=O);have o:=dF l;have q:=eI (a:=ae a) (x:=x);have I:cZ (ae a) (.j [ae 10,ae 14,ae 15,ae 16,ae 17,ae 18,ae 19])=ac ai∧cZ (ae a) (.j [ae 8,ae 9])=ac false:=by
  rcases b with e|e|e|e<;>(subst e;exact⟨rfl,rfl⟩)
 obtain⟨I,s⟩:=I;have c:=pV (k:=7) b rfl;have C:=pV (k:=12) b rfl;cases u:O.contains i<;>rw[u] at g
 ·cases r:O.any res<;>rw[r] at d
  ·exact aw 4096 [.call G,.has g,.call d,.get o,.get q,.has I,.C c,.C c,.has s,.C C]
  ·exact aw 0 [.call G,.has g,.call d]
 ·exact aw 0 [.call G,.has g]
theorem BB {m:bh} (b:R[s]? =ac (.j (ae a::x))) (c:¬a=6) (e:R[t]? =ac (.j [ae 6,p]))
  (h:aE k 220 [.l (an 2),.l (ag s),.l (ag t)] (m.st R) d [] st'):aE (k+1) 215 [.l (an 2),.l (ag s),.l (ag t)] (m.st R) d [] st':=yW.of _ _ fun n f=>by
 have h:=h n f;have g:=dF b;have G:=eI (a:=ae a) (x:=x);have i:=dF e;exact aw 69632 [.get g,.get G,.get i,.C c,.call h]
theorem O8 {m:bh} (c:R[s]? =ac (.j [ae 6,p])) (e:R[t]? =ac (.j (ae b::y)))
  (h:aE k 217 [.l (an 2),.l (ag s),.l (ag t)] (m.st R) d [] st'):aE (k+1) 215 [.l (an 2),.l (ag s),.l (ag t)] (m.st R) d [] st':=yW.of _ _ fun n f=>by
 have h:=h n f;have g:=dF c;have G:=eI (a:=ae b) (x:=y);have i:=dF e;exact aw 4112 [.get g,.get i,.get G,.call h]
theorem w' (o:eC R Pr m) (k:m.K.lookup p=ah) (t:p∉m.tr) (d:m.a<20000):eC R (p::Pr) (m.into p) where
 nd:=ke.mpr ⟨o.nd,by simp,fun A f b g e=>t (by rw[bW.mp g] at e;exact e▸f)⟩
 kt:=fun q c=>by
  rcases dD.mp c with h|h
  ·exact o.kt q h
  ·rw[List.mem_singleton.mp h];exact k
 kok:=o.kok
 aok:=fun q c n=>by
  rcases dD.mp c with h|h
  ·exact o.aok q h fun i=>n (je _ i)
  ·exact aR (bW.mp h▸kZ) n
 len:=by have:=o.len;refine(?_:m.K.length+(m.tr++[p]).length≤m.a+1);simp;exact b5 (.c 1 (.a .b .f) .g (.g 1 (.a .b (.a .f .n1)) (.a .g .n1))) rfl this
 a:=d
 N:=o.N
theorem sU {l:List ((Nat×Nat)×Bool)} (h:l.lookup p=ac b):(p,b)∈l:=(Ra.mp h).elim fun _ h=>h.elim fun _ h=>h.1▸eD _ (cU _)
noncomputable def g_ (R:List aj) (j:Nat):Nat:=by
 classical exact if h:∃v,cq R j v then h.choose else 0
theorem hT (h:cq R j v):g_ R j=v:=by
 unfold g_;have x:∃v,cq R j v:=⟨v,h⟩;exact ak (dif_pos x) (x.choose_spec.code h)
theorem bH.cod_mem (h:bH R t k O):v∈k↔∃j∈O,g_ R j=v:=by
 constructor
 ·exact fun g=>ay (h.fr v g) fun j a b=>bd j a (hT b)
 ·rintro ⟨j,a,e⟩;refine ay (h.to j a) fun u b i=> ?_;rw[←e,hT i];exact b
theorem H4:cz [u] [v]=(u==v||ce [v] u):=by
 unfold cz;simp;rfl
theorem NE (I:aW R) (f:cq R i u) (h:bH R t k O):(O.contains i||O.any fun j=>cz [u] [g_ R j])=cz [u] k:=by
 rw[ji];have e:cz [u] k=af↔u∈k∨ce k u=true:=by unfold cz;simp[tW]
 rw[e];simp only[dK,tW,n6,t4,H4,dL];have c:6∈k↔∃j∈O,g_ R j=6:=h.cod_mem;have d:7∈k↔∃j∈O,g_ R j=7:=h.cod_mem;constructor
 ·rintro (m|⟨j,a,e|e⟩)
  ·exact av (h.cod_mem.mpr (bd i m (hT f)))
  ·exact av (h.cod_mem.mpr (bd j a e.symm))
  ·right;unfold ce at e⊢;simp only[dK,fu,dL,tW,n6,bW] at e⊢;rcases e with⟨E,b⟩|⟨E,b⟩
   ·exact .inl ⟨E,c.mpr ⟨j,a,b.symm⟩⟩
   ·exact .inr ⟨E,d.mpr (bd j a b.symm)⟩
 ·rintro (g|e)
  ·exact ay (h.cod_mem.mp g) fun j a e=>aI (bd j a (av e.symm))
  ·right;unfold ce at e⊢;simp only[dK,fu,dL,tW,n6,bW] at e⊢;rcases e with⟨E,b⟩|⟨E,b⟩
   ·exact ay (c.mp b) fun j a e=>bd j a (aI (av ⟨E,e.symm⟩))
   ·exact ay (d.mp b) fun j a e=>bd j a (aI (aI ⟨E,e.symm⟩))
theorem bH.c (h:bH R t k O):(∃v,k=[v]∧O=[t]∧cq R t v)∨(R[t]? =ac (.j [ae 6,.j (O.map ag)])∧2≤O.length):=by
 rcases h.pt.2 with⟨n,w,a,b,e⟩|a
 ·left;refine ay (h.to t (by rw[e];simp)) fun v l u=> ?_;refine g2 v (?_) e u;have:∀x∈k,x=v:=fun x m=>by
   refine ay (h.fr x m) fun j g i=> ?_;rw[e] at g;rw[bW.mp g] at i;exact i.code u
  have s:=h.nk.2.1
  match k,l,this,s with
  |[x],_,h,_=>rw[h x (by simp)]
  |x::y::r,_,h,s=>
   have a:=h x (by simp);have b:=h y (by simp);have:=(pr.mp s).1 y (by simp);exact aR ((a.trans b.symm)▸this:y<y) (gI y)
 ·exact aI a
theorem bH.ids_le (I:aW R) (h:bH R t k O):O.length≤k.length:=by
 have w:(O.map (g_ R)).Nodup:=by
  have n:=h.sorted.imp fun h=>hZ h;have g:∀i∈O,∃u,cq R i u:=fun i o=>ay (h.to i o) fun u _ g=>⟨u,g⟩;have y:∀l:List Nat,l.Nodup→(∀i∈l,∃u,cq R i u)→(l.map (g_ R)).Nodup:=by
   intro l;induction l with
   |nil=>intro _ _;exact h7
   |cons a r z=>
    intro n g;rw[gn] at n;refine gn.mpr ⟨fun m=>(ay (cr.mp m) fun b p e=> ?_),z n.2 fun i o=>g i (je _ o)⟩;obtain⟨u,q⟩:=g a kZ;obtain⟨v,s⟩:=g b (je _ p);rw[hT q,hT s] at e;subst e;exact n.1 (q.inj I s▸p)
  exact y O n g
 have:=w.length_le_of_subset (l₂:=k) fun x A=>by
  exact ay (cr.mp A) fun j B e=>h.cod_mem.mpr (bd j B e)
 simpa using this
theorem OX (h:bH R s k O):O.all (fun i=>cz [g_ R i] k')=cz k k':=by
 rw[ji,cH];have e:∀u,cz [u] k'=(k'.contains u||ce k' u):=fun u=>by unfold cz;simp
 unfold cz;rw[cH];constructor
 ·refine fun a u c=>ay (h.cod_mem.mp c) fun j b y=> ?_;subst y;have:=a j b;rw[←e];exact this
 ·intro a j b;have:=a _ (h.cod_mem.mpr (bd j b rfl));rw[←e] at this;exact this
theorem Be {s:Nat} (u:eC R Pr m) (y:s≠t) (z:R[s]? =ac r) (A:ib r) (B:R[t]? =ac C) (D:ib C) (E:aE 2 209 [.l (an 2),.l (ag s),.l (ag t)] (m.st R) (ae (-1)) [] (m.st R))
  (v:2≤k) (w:m.a<20000) (p:m.dp<60) (F:m.tr≠[]∨Pr=[]) (G:(s,t)∉Pr) (Q:Bool→bh→List aj→Prop) (n:∀b,jV R (s,t) b→(b=af∧(s,t)∈m.tr∨((s,t),b)∈m.K)→Q b m R)
  (l:eC R ((s,t)::Pr) (m.into (s,t))→(s,t)∉m.tr→∃j a b c,aE k 215 [.l (an 2),.l (ag s),.l (ag t)] ((m.into (s,t)).st R) (aA b) [] (j.st a)∧bL R a∧dU a ((s,t)::Pr) (m.into (s,t)) j c∧jV a (s,t) b∧
   ∀M,dU a Pr m M (c+1)→M.tw=j.tw→(b=af→M.N=j.N)→(b=ai→M.N=m.N∧M.tr=m.tr)→Q b M a):
  ∃M d b,aE (k+3) 4921 [.l (an 2),.l (ag s),.l (ag t)] (m.st R) (aA b) [] (M.st d)∧Q b M d:=by
 suffices h:∃M d b,aE (k+1) 205 [.l (an 2),.l (ag s),.l (ag t)] (m.st R) (aA b) [] (M.st d)∧Q b M d by
  refine hQ h ?_;clear h;intro M d b h q;exact iT M d b (ni (v_ (fun e=>y (dh e)) z A B D (E.up (aY rfl)) h (b3 v))) q
 induction f:m.K.lookup (s,t) with
 |some b=>exact⟨m,R,b,(AZ f).up (gH _ _),n b (u.kok _ (sU f)) (aI (sU f))⟩
 |none=>
  by_cases i:(s,t)∈m.tr
  ·exact iT m R af ((CJ f i).up (gH _ _)) (n af (u.aok _ i G) (av ⟨rfl,i⟩))
  ·exact P7 (l (w' u f i w) i) fun j a b c h x g o q=>vK (wl u x f i v w p F h g o) fun M I L N P S=>iT M a b I (q M L N P S)
theorem A1 {o:Option aj} (c:o=ac (.j (ae a::x))) (h:o=ac (.j (ae b::y))):a=b:=by
 rw[c] at h;cases h;rfl
theorem Ab (I:aW R) (q:eC R Pr m) (d:cq R i u) (c:bH R t k O) (D:∀p∈Pr,p.1≠i) (E:m.a<20000) (F:m.dp<60) (G:m.tr≠[]):
  ∃M,aE 12 4921 [.l (an 2),.l (ag i),.l (ag t)] (m.st R) (aA (cz [u] k)) [] (M.st R)∧iV R Pr m M 1:=by
 rcases c.c with⟨v,rfl,rfl,n⟩|⟨w,l⟩
 ·exact⟨m,(BX I d n).up (aY rfl),(iV.f q).le (Nat.zero_le _)⟩
 refine cF d.head fun a x f s L=> ?_;have A:¬a=6:=fun e=>aR (e▸s) (by decide);have N:i≠t:=fun e=>A (A1 f (e▸w));have y:=bH.d I d
 obtain⟨M,r,b,h,rfl,rfl,g⟩:=Be (k:=9) q N f (.a L) w (.un _) (wr (l6 (d.far I)) (c.far I) f w (aI ⟨s.imp_right fun h=>h.imp_right fun h=>h.imp_right av,rfl⟩)) (aY rfl) E F (av G) (fun h=>D _ h rfl) (fun b M r=>b=cz [u] k∧r=R∧iV R Pr m M 1)
  (fun b o _=>fg (o.plain I y c) rfl ((iV.f q).le (cA _))) fun z _=>by
   have B:=HY f s c.pt (fun j P=>by
    refine ay (c.to j P) fun v _ n=> ?_;exact BX I d (hT n▸n)) z.small
   rw[NE I d c] at B;exact Ao _ R _ 0 (BB f A w B) .f (.f z) (av ⟨[u],[i],k,O,y,c,rfl⟩) (fun M Q S T U=>⟨rfl,rfl,Q,by induction C:cz [u] k with|true=>exact T C|false=>exact(U C).1,S⟩)
 exact bd M h g
theorem Hf (e:l=d++j::r) (h:q j=ai):l.all q=false:=by
 rw[e,ya,m0,h,ye,Bool.and_false]
theorem Hg:(d++[j]).all q=(d.all q&&q j):=by rw[ya,m0,SF,n9]
theorem Lo (o:eC R Pr m) (p:gY R s O)
  (h:∀i∈O,∀u c,iV R Pr m u c→c<O.length→∃M,aE 12 4921 [.l (an 2),.l (ag i),.l (ag t)] (u.st R) (aA (res i)) [] (M.st R)∧iV R Pr u M 1):
  ∃M,aE 13 217 [.l (an 2),.l (ag s),.l (ag t)] (m.st R) (aA (O.all res)) [] (M.st R)∧iV R Pr m M O.length:=by
 obtain⟨f,M,⟨q,g⟩,l⟩:=sY (g:=217) (b:=ah) [0] ag O (fun _:bh=>[(27,.l (an 2)),(29,.l (ag s)),(19,.l (ag t))]) (fun m=>m.st R) (fun d M=>d.all res=af∧iV R Pr m M d.length) (fun f M=>f=(if O.all res then a' else .h (aA ai))∧iV R Pr m M O.length) m ⟨rfl,.f o⟩ rfl
  (fun D j C u e z=>z.elim fun w g=>by
   have v:D.length<O.length:=by rw[e];simp
   refine ay (h j (eO e) u D.length g v) fun M a y=> ?_;have G:=g.trans y;cases r:res j<;>have a:=r▸a
   ·refine cN M (.h (aA ai)) (fun n k=> ?_) (aI ⟨rfl,by rw[Hf e r];rfl,G.le v⟩);have a:=a n k;exact bq 0 [.call a]
   ·refine cN M a' (fun n k=> ?_) (av ⟨av rfl,⟨by rw[Hg,w,r];rfl,by rw[bi];exact G⟩,rfl⟩);have a:=a n k;exact bq 0 [.call a])
  fun x h=>⟨by rw[h.1];rfl,h.2⟩
 refine bd M (yW.of _ _ fun n k=> ?_) g;have A:aZ n 165 [.l (an 0),.l (ag s)] (m.st R) (.j (O.map ag)) [] (m.st R):=jx p n (bl k rfl);have l:=l n k;subst q;cases B:O.all res<;>rw[B] at l<;>exact aw 0 [.call A,.sub l]
theorem PR:cz k k=true:=cH.mpr fun u h=>by refine ak (ee.mpr h) ?_;rfl
theorem N_ (I:aW R) (n:eC R Pr m) (d:bH R s k O) (f:bH R t k' V) (r:∀p∈Pr,p.1≠s∧p.1∉O) (C:m.a+k.length+1≤20000) (D:m.dp<59) (L:m.tr≠[]):
  ∃M,aE 17 4921 [.l (an 2),.l (ag s),.l (ag t)] (m.st R) (aA (cz k k')) [] (M.st R)∧iV R Pr m M (k.length+1):=by
 rcases d.c with⟨v,rfl,rfl,W⟩|⟨w,l⟩
 ·exact ay (Ab I n W f (fun p j=>(r p j).1) (cD (.c 1 (.a (.a .b .f) .n1) (.n 20000) (.g 1 (.a .b .n1) (.n 20000))) rfl C) (dN (.c 1 (.a .b .n1) (.n 59) (.g 1 (.a .b .n1) (.n 60))) rfl D) L) fun M E z=>bd M (E.up (aY rfl)) (z.le (gH _ _))
 by_cases N:s=t
 ·subst N;obtain⟨rfl,_⟩:=mL I d f;exact ak PR (bd m ((ni wY).up (aY rfl)) ((iV.f n).le (cA _)))
 refine bK f.head fun b y z A=>ay f.f fun ξ Z α=> ?_
 obtain⟨M,P,b,h,rfl,rfl,g⟩:=Be (k:=14) n N w (.un _) Z α (wr (d.far I) (f.far I) w z (av ⟨rfl,A⟩)) (aY rfl) (cD (.c 1 (.a (.a .b .f) .n1) (.n 20000) (.g 1 (.a .b .n1) (.n 20000))) rfl C) (dN (.c 1 (.a .b .n1) (.n 59) (.g 1 (.a .b .n1) (.n 60))) rfl D) (av L) (fun h=>(r _ h).1 rfl) (fun b M P=>b=cz k k'∧P=R∧iV R Pr m M (k.length+1))
  (fun b o _=>fg (o.plain I d f) rfl ((iV.f n).le (cA _))) fun β _=>by
   have γ:s∉O:=fun δ=>by
    refine ay (d.to s δ) fun u _ B=>cF B.head fun a x E ε _=> ?_;have:=A1 E w;exact pV ε rfl this
   have S:=d.ids_le I;obtain⟨ζ,T,G⟩:=Lo (res:=fun i=>cz [g_ R i] k') β d.pt fun i F U c g η=>by
    refine ay (d.to i F) fun u _ B=> ?_;simp only[hT B];have θ:U.a≤m.a+1+c:=g.l;have ι:U.dp=m.dp+1:=g.dp;obtain⟨X,κ⟩:=g.tr;refine Ab I g.ok B f (fun p j=> ?_) (eY (.c 1 (.a (.a .b .f) .n1) (.n 20000) (.c 1 .g .f (.c 1 (.a .j .n1) .g (.c 1 .l (.a (.a .b .n1) .j) (.g 1 (.a .l .n1) (.n 20000)))))) rfl C S η θ) (cD (.c 1 (.a .b .n1) (.n 59) (.c 1 .f (.a .b .n1) (.g 1 (.a .f .n1) (.n 60)))) rfl D (a9 ι)) (by refine ak κ ?_;simp[bh.into]);rcases eS.mp j with rfl|j
    ·exact fun e:s=i=>γ (e▸F)
    ·exact fun e=>(r p j).2 (e▸F)
   rw[OX d] at T;exact⟨ζ,R,_,_,O8 w z T,.f,G.todU,av (BZ k O k' V d f rfl),fun M q Q μ ν=>⟨rfl,rfl,q.le (b3 S),by
    induction A:cz k k' with
    |true=>exact ak (μ A) G.eN
    |false=>exact(ν A).1,Q.trans G.tw⟩⟩
 exact bd M h g
noncomputable def bh.stW (m:bh) (R:List aj) (tr:List (Nat×Nat)) (K:List ((Nat×Nat)×Bool)) (dp lk:Nat):ar:=
 aF R::bF::l9 (b1 (.e qY)) m.tr m.K m.dp m.a 1 3 m.tel (an 7)::ek m.N::⟨273,[]⟩::⟨257,[]⟩::⟨252,[]⟩::[l9 (.l (da 2 1)) tr K dp lk 3 8 ai a4,ek 0]
section
variable{m:bh}
noncomputable def hO (F:List (Nat×Nat)):List ((Nat×Nat)×Bool):=F.map fun p=>(p,ai)
theorem Gg:(hO F).lookup p=if p∈F then ac ai else none:=by
 induction F with
 |nil=>rfl
 |cons q F i=>
  show((q,ai)::hO F).lookup p=_;refine ak fP ?_;by_cases h:p=q
  ·subst h;simp
  ·refine ak (c5.mpr h) (ak i ?_);simp[h]
noncomputable def d6:Option (List (Nat×Nat)×Nat)→Prop
 |none=>True
 |some (F,l)=>F.length≤l∧l≤20000
theorem Hu:aE 1 207 [.l (an 7)] (m.stW R tr K dp lk) (aA ai) [] (m.stW R tr K dp lk):=yW.of _ _ fun n h=>by
 exact aw 0 []
theorem Ck (h:tr.length≤1):aE 1 4924 [.l (an 7)] (m.stW R tr K dp lk) (.j [ag 0,ag tr.length]) [] (m.stW R tr K dp lk):=yW.of _ _ fun n a=>by
 exact aw 1 [.p (ds:=tr.map bc) (aB _) (aD h rfl)]
theorem HN:aE 1 204 [.l (an 7),.l (ag s),.l (ag s)] (m.stW R tr K dp lk) (aA af) [] (m.stW R tr K dp lk):=yW.of _ _ fun n h=>by
 have c:(s:Int)=s:=rfl;exact aw 0 [.eq c]
theorem zV (r:s≠t) (f:gc s) (F:gc t) (d:R[s]? =ac (.j (ae a::x))) (k:ib (.j (ae a::x))) (j:R[t]? =ac (.j (ae b::y))) (u:ib (.j (ae b::y)))
  (v:(a=1∨a=2∨a=3∨a=4)∨(a=6∧(b=1∨b=2∨b=3∨b=4))):aE 4 204 [.l (an 7),.l (ag s),.l (ag t)] (m.stW R tr K dp lk) (aA ai) [] (m.stW R tr K dp lk):=yW.of _ _ fun n l=>by
 have g:aZ n 203 [.l (an 1),.l (ag s)] (m.stW R tr K dp lk) (ag s) [] (m.stW R tr K dp lk):=mz d k n l;have G:aZ n 203 [.l (an 1),.l (ag t)] (m.stW R tr K dp lk) (ag t) [] (m.stW R tr K dp lk):=mz j u n l;replace d:=dF d;replace j:=dF j;have o:=eI (a:=ae a) (x:=x);have w:=eI (a:=ae b) (x:=y);have c:¬(s:Int)=t:=fun e=>r (dh e);have C:=f.a;have p:=F.a;have q:∀a:Int,(a=1∨a=2∨a=3∨a=4)→cZ (ae a) (.j [ae 1,ae 2,ae 3,ae 4,ae 5])=ac true:=fun a e=>by rcases e with e|e|e|e<;>(subst e;rfl)
 rcases v with h|⟨rfl,h⟩
 ·have i:=q a h;exact aw 65536 [.C c,.call g,.call G,.C c,.C C,.C p,.get d,.get o,.has i]
 ·have i:=q b h;exact aw 4295032832 [.C c,.call g,.call G,.C c,.C C,.C p,.get d,.get o,.get j,.get w,.has i]
theorem Io (l:s≠t) (f:gc s) (F:gc t) (a:R[s]? =ac (.j [ae 6,p])) (b:R[t]? =ac (.j [ae 6,q]))
  (h:aE k 205 [.l (an 7),.l (ag s),.l (ag t)] (m.stW R tr K dp lk) d [] st') (j:3≤k):aE (k+1) 204 [.l (an 7),.l (ag s),.l (ag t)] (m.stW R tr K dp lk) d [] st':=yW.of _ _ fun n i=>by
 have h:=h n i;have g:aZ n 203 [.l (an 1),.l (ag s)] (m.stW R tr K dp lk) (ag s) [] (m.stW R tr K dp lk):=mz a (.un _) n (ao j i);have G:aZ n 203 [.l (an 1),.l (ag t)] (m.stW R tr K dp lk) (ag t) [] (m.stW R tr K dp lk):=mz b (.un _) n (ao j i);replace a:=dF a;replace b:=dF b;have c:¬(s:Int)=t:=fun e=>l (dh e);have C:=f.a;have o:=F.a;exact aw 9126871040 [.C c,.call g,.call G,.C c,.C C,.C o,.get a,.get b,.call h]
theorem vA (h:aE k 204 [.l (an 7),.l (ag s),.l (ag t)] (m.stW R tr K dp lk) d [] st'):aE (k+1) 4921 [.l (an 7),.l (ag s),.l (ag t)] (m.stW R tr K dp lk) d [] st':=yW.of _ _ fun n a=>by
 have h:=h n a;exact aw 0 [.call h]
theorem Kz (I:aW R) (h:cq R s u) (c:cq R t v):aE 5 4921 [.l (an 7),.l (ag s),.l (ag t)] (m.stW R tr K dp lk) (aA (aM (s=t))) [] (m.stW R tr K dp lk):=vA (by
 by_cases e:s=t
 ·subst e;exact ak (cu rfl) (HN.up (aY rfl))
 ·refine cF h.head fun a x d f w=>cF c.head fun b y g j i=>ak (cP e) ?_;exact zV e (l6 (h.far I)) (l6 (c.far I)) d (.a w) g (.a i) (av f))
theorem J' {js:List Nat} (h:∀j∈js,aE 5 4921 [.l (an 7),.l (ag s),.l (ag j)] (m.stW R tr K dp lk) (aA (res j)) [] (m.stW R tr K dp lk)) (t:tr.length≤1):
  aE 6 218 [.l (an 7),.l (ag s),.l (.j (js.map ag))] (m.stW R tr K dp lk) (aA (js.any res)) [] (m.stW R tr K dp lk):=yW.of _ _ fun n a=>by
 have G:=Ck (m:=m) (R:=R) (K:=K) (dp:=dp) (lk:=lk) t n (bl a rfl);have l:=l4 (g:=218) (b:=ah) [1] ag js (fun j=>if res j then ac (aA af) else ah) [(27,.l (an 7)),(29,.l (ag s)),(23,.l (.j (js.map ag))),(40,.l a4)] (m.stW R tr K dp lk) rfl rfl fun j c=>by
  have h:=h j c n a;cases r:res j<;>rw[r] at h<;>exact bq 0 [.call G,.call h]
 rw[tA] at l;cases e:js.any res<;>rw[e] at l<;>exact aw 0 [.sub l]
theorem F1 (l:List b) (p:b→Bool) (d:aj):l.findSome? (fun j=>if p j then ah else ac d)=if l.all p then ah else ac d:=by
 induction l with
 |nil=>rfl
 |cons a l i=>refine ak (xX) (ak m0 (ak i ?_));cases p a<;>rfl
theorem MQ {I js:List Nat} (h:∀i∈I,aE 6 218 [.l (an 7),.l (ag i),.l (.j (js.map ag))] (m.stW R tr K dp lk) (aA (res i)) [] (m.stW R tr K dp lk)):
  aE 7 222 [.l (an 7),.l (.j (I.map ag)),.l (.j (js.map ag))] (m.stW R tr K dp lk) (aA (I.all res)) [] (m.stW R tr K dp lk):=yW.of _ _ fun n a=>by
 have l:=l4 (g:=222) (b:=ah) [0] ag I (fun j=>if res j then ah else ac (aA ai)) [(27,.l (an 7)),(41,.l (.j (I.map ag))),(42,.l (.j (js.map ag)))] (m.stW R tr K dp lk) rfl rfl fun j c=>by
  have h:=h j c n a;cases r:res j<;>rw[r] at h<;>exact bq 0 [.call h]
 rw[F1] at l;cases e:I.all res<;>rw[e] at l<;>exact aw 0 [.sub l]
theorem Mu:aE 1 202 [.l (an 7),.l (.j [ag 0,ag 0])] (m.stW R [p] K dp lk) (a4) [] (m.stW R [] K dp lk):=yW.of _ _ fun n b=>by
 obtain⟨_,_,_,⟨rfl,rfl,rfl⟩,w⟩:=wG (n:=n) (g:=202) [1] (fun _=>[(27,.l (an 7)),(33,.l (.j [ag 0,ag 0]))]) (fun l=>m.stW R l K dp lk) (fun l=>l=[p]∨l=[]) gK
  (fun f L s=>f=a'∧L=[(27,.l (an 7)),(33,.l (.j [ag 0,ag 0]))]∧s=m.stW R [] K dp lk) [p] (av rfl) (by show 1<100000;decide) rfl fun l h=>by
   rcases h with rfl|rfl
   ·refine .inl ⟨[],.next,.inr rfl,Nat.zero_lt_one,.inl rfl, ?_⟩;have a:(wv.del (bc p) (cE [p])).e=some (.none,.e (cE [])):=by
     show(if(cT (bc p) (cE [p])&&dA (bc p) (cE [p]))=true then some (aj.none,b0.e (hR (bc p) (cE [p]))) else none)=_
     refine ak (vq (List.mem_singleton.mpr rfl)) (ak B' ?_);rfl
    exact bq 4 [.I a]
   ·refine .inr (rW .o _ _ rfl (?_) rfl rfl rfl);exact bq 0 []
 exact aw 2 [.sub w]
theorem LK (I:aW R) {k O:List Nat} (o:bH R s k O) (p:bH R t k' d) (A:s≠t) (f:R[s]? =ac (.j [ae 6,.j (O.map ag)])) (g:R[t]? =ac (.j [ae 6,.j (d.map ag)])) (B:tr.length≤1):
  aE 8 221 [.l (an 7),.l (ag s),.l (ag t)] (m.stW R tr K dp lk) (aA ai) [] (m.stW R tr K dp lk):=yW.of _ _ fun n C=>by
 have q:∀{a b:Nat} {D E w z:List Nat},bH R a D w→bH R b E z→aZ n 222 [.l (an 7),.l (.j (w.map ag)),.l (.j (z.map ag))] (m.stW R tr K dp lk) (aA (w.all fun i=>z.any fun j=>aM (i=j))) [] (m.stW R tr K dp lk):=fun F G=>MQ (fun i L=>J' (fun j P=>by
  refine ay (F.to i L) fun u _ T=>ay (G.to j P) fun v _ U=> ?_;exact Kz I T U) B) n C
 have Q:=q o p;have V:=q p o;have N:((O.all fun i=>d.any fun j=>aM (i=j))&&d.all fun i=>O.any fun j=>aM (i=j))=false:=by
  refine nV.mpr fun c=> ?_;rw[fu,cH,cH] at c;have S:∀{l r:List Nat},(∀x∈l,(r.any fun j=>aM (x=j))=af)→∀x∈l,x∈r:=fun h x W=>by
   exact ay (t4.mp (h x W)) fun y X e=>dB e▸X
  have:O=d:=pj o.sorted p.sorted fun x=>⟨S c.1 x,S c.2 x⟩;subst this;exact A (oM I.nd f g)
 replace f:=dF f;replace g:=dF g;generalize(O.all fun i=>d.any fun j=>aM (i=j))=x at*;generalize(d.all fun i=>O.any fun j=>aM (i=j))=y at*;induction x
 ·exact aw 1792 [.get f,.get g,.call Q]
 ·obtain rfl:y=false:=N;exact aw 14080 [.get f,.get g,.call Q,.call V]
theorem Fu (I:aW R) (v:bH R s k O) (w:bH R t k' x) (y:s≠t) (z:R[s]? =ac (.j [ae 6,.j (O.map ag)])) (j:R[t]? =ac (.j [ae 6,.j (x.map ag)])) (e:F.length≤lk) (a:lk≤20000):
  ∃f o,aE 9 205 [.l (an 7),.l (ag s),.l (ag t)] (m.stW R [] (hO F) 0 lk) (aA ai) [] (m.stW R [] (hO f) 0 o)∧f.length≤o∧o≤20000:=by
 have L:=Gg (p:=(s,t)) (F:=F);have i:=qu (p:=(s,t)) (l:=hO F);by_cases r:(s,t)∈F
 ·have L:=aJ r▸L;have i:=L▸i;have j:ez (.e (eX (hO F))) (.j [ag s,ag t])=ac (aA ai):=by
   show(if cT (bc (s,t)) (eX (hO F)) then f3 (bc (s,t)) (eX (hO F)) else ah)=_
   rw[aJ tu,Cn,L];rfl
  refine es F lk (yW.of _ _ fun n d=> ?_) e a;exact aw 0 [.has i,.get j]
 ·have L:=aL r▸L;have i:=L▸i;by_cases q:20000≤lk
  ·have c:=gq.mpr q;refine es F lk (yW.of _ _ fun n d=> ?_) e a;have g:=Hu (m:=m) (R:=R) (tr:=[]) (K:=hO F) (dp:=0) (lk:=lk) n (bl d rfl);exact aw 16 [.has i,.N c,.call g]
  ·have c:¬(20000:Int)≤(lk:Int):=fun h=>q (gq.mp h);have a:=f' q;refine es (F++[(s,t)]) (lk+1) (yW.of _ _ fun n d=> ?_) (by rw[bi];exact b3 e) a;have u:1≤n:=bl d rfl;have G:=Ck (m:=m) (R:=R) (tr:=[]) (K:=hO F) (dp:=0) (lk:=lk+1) (cA _) n u;have A:=LK (m:=m) (tr:=[(s,t)]) (K:=hO F) (dp:=1) (lk:=lk+1) I v w y z j (bv _) n d;have B:=Mu (m:=m) (R:=R) (p:=(s,t)) (K:=hO F) (dp:=0) (lk:=lk+1) n u;have C:gT (.e (eX (hO F))) (.j [ag s,ag t]) (aA ai)=ac (.e (eX (hO (F++[(s,t)])))):=by
    have:=uN (b:=ai) L (by unfold hO;rw[aB];exact ao e (aD (gJ a) rfl));unfold hO at this⊢;exact ak cm this
   exact aw 35918096 [.has i,.D c,.D c,.call G,.call A,.call B,.set C]
end
theorem M7:aE 1 1360 [.l (an 8)] [a,b,c,d,e,f,g,h,⟨109,[]⟩] a4 [] [a,b,c,d,e,f,g,h,ek 0]:=yW.of _ _ fun n i=>by
 exact aw 0 []
theorem MH:aE 2 4920 [.l (an 7),.l (an 1),.l (ae 3)] [a,b,c,d,e,f,g,⟨198,[]⟩] a4 [] [a,b,c,d,e,f,g,l9 (b1 (.e [])) [] [] 0 0 3 8 af a4,ek 0]:=yW.of _ _ fun n i=>by
 have h:=M7 (a:=a) (b:=b) (c:=c) (d:=d) (e:=e) (f:=f) (g:=g) (h:=⟨198,[(11,.l (an 1)),(13,.l (ae 3)),(1,b1 (.e [])),(16,b1 (.e [])),(21,b1 (.e [])),(15,b1 (.c [])),(48,b1 (.c [])),(20,.l (ae 0)),(19,.l (ae 0))]⟩) n i;exact aw 0 [.call h]
theorem MN {m:bh} (w:m.tw=ah):aE 3 200 [.l (an 2),.l (ae 3)] (m.st R) (an 7) [] (aF R::bF::l9 (b1 (.e qY)) m.tr m.K m.dp m.a 1 3 m.tel a4::ek m.N::⟨273,[]⟩::⟨257,[]⟩::⟨252,[]⟩::wq (ac ([],0))):=yW.of _ _ fun n i=>by
 have h:=MH (a:=aF R) (b:=bF) (c:=l9 (b1 (.e qY)) m.tr m.K m.dp m.a 1 3 m.tel a4) (d:=ek m.N) (e:=⟨273,[]⟩) (f:=⟨257,[]⟩) (g:=⟨252,[]⟩) n i;obtain⟨t,k,D,l,N,T,_⟩:=m;subst w;exact aw 0 [.call h]
theorem OC {m:bh}:∃F lk,aE 4 201 [.l (an 2)] (m.st R) (an 7) [] ({m with tw:=ac (F,lk)}.st R)∧(d6 m.tw→d6 (ac (F,lk))):=by
 induction h:m.tw with
 |none=>
  refine cN ([]) 0 (yW.of _ _ fun n a=> ?_) (fun _=>⟨bv _,cA _⟩);have g:=MN (R:=R) h n a;obtain⟨t,k,d,lk,N,T,_⟩:=m;subst h;exact aw 2 [.call g]
 |some w=>
  refine cN w.1 w.2 (yW.of _ _ fun n a=> ?_) id;obtain⟨t,k,d,lk,N,T,_⟩:=m;subst h;exact aw 0 []
theorem Fv {m:bh} (I:aW R) (g:bH R s k O) (e:bH R t k' i) (n:s≠t) (o:F.length≤lk) (p:lk≤20000):
  ∃f l,aE 11 4921 [.l (an 7),.l (ag s),.l (ag t)] ({m with tw:=ac (F,lk)}.st R) (aA ai) [] ({m with tw:=ac (f,l)}.st R)∧f.length≤l∧l≤20000:=by
 have B:(∃a x b y,R[s]? =ac (.j (ae a::x))∧ib (.j (ae a::x))∧R[t]? =ac (.j (ae b::y))∧ib (.j (ae b::y))∧((a=1∨a=2∨a=3∨a=4)∨(a=6∧(b=1∨b=2∨b=3∨b=4))))∨
   (R[s]? =ac (.j [ae 6,.j (O.map ag)])∧R[t]? =ac (.j [ae 6,.j (i.map ag)])):=by
  rcases g.c with⟨u,rfl,rfl,A⟩|⟨d,_⟩
  ·left;refine sz fun _ q=>cF A.head fun a x d C w=>bK e.head fun b y c z=>ay e.f fun r j D=>q ?_;rw[c] at j;injection j with j;subst j;exact⟨a,x,b,y,d,.a w,c,D,av C⟩
  ·rcases e.c with⟨v,rfl,rfl,E⟩|⟨c,_⟩
   ·left;exact cF E.head fun b y c z w=>Ao 6 _ b y d (.un _) c (.a w) (aI ⟨rfl,z⟩)
   ·exact aI ⟨d,c⟩
 rcases B with⟨a,x,b,y,d,G,c,L,N⟩|⟨d,c⟩
 ·exact⟨F,lk,(vA (zV n (g.far I) (e.far I) d G c L N)).up (aY rfl),o,p⟩
 ·obtain⟨f,l,h,a,b⟩:=Fu I g e n d c o p;exact es f l (vA (m:=m) (Io n (g.far I) (e.far I) d c h (aY rfl))) a b
theorem N1 {m:bh} (I:aW R) (j:bH R s k O) (o:bH R t k' i) (w:d6 m.tw):
  ∃T,aE 12 4923 [.l (an 2),.l (ag s),.l (ag t)] (m.st R) (aA (aM (s=t))) [] ({m with tw:=T}.st R)∧d6 T:=by
 by_cases h:s=t
 ·subst h;refine ak (cu rfl) (bd m.tw (yW.of _ _ fun n a=> ?_) w);have c:(s:Int)=s:=rfl;exact aw 0 [.eq c]
 ·refine ak (cP h) ?_;obtain⟨F,L,b,g⟩:=OC (R:=R);refine bK (Fv (m:=m) I j o h (g w).1 (g w).2) fun f l d p=>bd (ac (f,l)) (yW.of _ _ fun n a=> ?_) p;have c:¬(s:Int)=t:=fun e=>h (dh e);have b:=b n (bl a rfl);have d:=d n a;exact aw 16 [.C c,.call b,.call d]
noncomputable def cK.U {j:Int} (h:¬i=j):cK X:=.z (o:=.k eG (ae i) (ae j)) (v:=af) (by show ac (!(i==j))=_;rw[c5.mpr h];rfl)
theorem GB {m:bh} {s:Nat} (I:aW R) (o:bH R s k O) (p:bH R t k' i) (w:d6 m.tw) (q:m.N≤1000000):
  ∃T,aE 13 208 [.l (an 2),.l (ag s),.l (ag t)] (m.st R) (a4) [] ({m with tw:=T,N:=if m.tel=af∧s≠t then m.N+1 else m.N}.st R)∧d6 T:=by
 refine ay (N1 I o p w) fun T g u=> ?_;obtain⟨r,b,d,l,f,v,j⟩:=m;induction v with
 |false=>
  refine bd j (yW.of _ _ fun n h=> ?_) w;have G:=Bw (m:=⟨r,b,d,l,f,ai,j⟩) (R:=R) n (bl h rfl);refine ak (aL fun e=>hU e.1) ?_;exact aw 0 [.call G]
 |true=>
  refine bd T (yW.of _ _ fun n h=> ?_) u;have G:=Bw (m:=⟨r,b,d,l,f,af,j⟩) (R:=R) n (bl h rfl);have c:=(o.far I).a;have C:=(p.far I).a;have g:=g n h;by_cases a:s=t
  ·have g:=cu a▸g;refine ak (aL fun e=>e.2 a) ?_;exact aw 16 [.call G,.U c,.U C,.call g]
  ·have x:=tq (m:=⟨r,b,d,l,f,af,T⟩) (R:=R) q n (bl h rfl);rw[cP a] at g;refine ak (aJ ⟨rfl,a⟩) ?_;exact aw 65552 [.call G,.U c,.U C,.call g,.call x]
noncomputable def bf (E:List (Nat×Nat)):List aj:=E.map bc
noncomputable def en (E:List (Nat×Nat)):Option Nat:=E.findIdx? fun p=>aM (2≤p.2)
noncomputable def gw (E:List (Nat×Nat)):Int:=match en E with
 |some i=>(i:Int)
 |none=> -1
noncomputable def fq (E:List (Nat×Nat)) (n p:Nat):Option (Nat×Nat):=match en E with
 |none=>E[p]?
 |some i=>if p<i then E[p]?else if n≤p+(E.length-i-1) then E[E.length+p-n]?else E[i]?
noncomputable abbrev jU (n:Nat):Int:=(n:Int)
theorem jW (N:Nat):f4 0 (N:Int)=(cv N).map ag:=by
 unfold f4;rw[Int.sub_zero,py];apply Rz;intro k _;rw[EA]
theorem Hh (h:cv N=d++i::r1):i=d.length∧i<N:=by
 have a:(cv N)[d.length]? =ac i:=by rw[h];simp
 have l:d.length<N:=by have:=aS gK h;simp at this;exact b5 (.c 1 (.a .b (.a .f .n1)) .g (.g 1 (.a .b .n1) .g)) rfl (a9 (cB this))
 rw[tX l] at a;injection a with a;subst a;exact⟨rfl,l⟩
theorem lj (E:List a):f4 0 (jU E.length)=E.zipIdx.map fun p=>ag p.2:=by
 rw[jW,List.range_eq_range',←List.zipIdx_map_snd 0 E,eg];rfl
theorem nH {E:List a} (h:j∈E.zipIdx):E[j.2]? =ac j.1:=List.mem_zipIdx_iff_getElem?.mp h
section
noncomputable def cK.G {ds:List aj} (e:ds.length=k) (h:k≤16777216):cK a:=.F (o:=pS (.j ds)) (v:=ag k) (by subst e;exact aJ h)
noncomputable def cK.x {j:Nat} (h:(i==j)=b):cK a:=.z (o:=.k a6 (ag i) (ag j)) (v:=b) (by subst h;show ac (aM _)=_;rw[n7.mpr El];rfl)
noncomputable def cK.M {j:Nat} (h:(i==j)=b):cK a:=.z (o:=.k eG (ag i) (ag j)) (v:= !b) (by subst h;show ac (!aM _)=_;rw[n7.mpr El];rfl)
noncomputable def cK.A {j:Nat} (h:aM (i<j)=b):cK a:=.z (o:=.k eU (ag i) (ag j)) (v:=b) (by subst h;show ac (aM _)=_;rw[n7.mpr g5])
noncomputable def cK.y {j:Nat} (h:aM (j<i)=b):cK a:=.z (o:=.k d4 (ag i) (ag j)) (v:=b) (by subst h;show ac (aM _)=_;rw[n7.mpr g5])
noncomputable def cK.V {j:Nat} (h:aM (i≤j)=b):cK a:=.z (o:=.k oq (ag i) (ag j)) (v:=b) (by subst h;show ac (aM _)=_;rw[n7.mpr gq])
noncomputable def cK.J {j:Nat} (h:aM (j≤i)=b):cK a:=.z (o:=.k jl (ag i) (ag j)) (v:=b) (by subst h;show ac (aM _)=_;rw[n7.mpr gq])
end
section
theorem ed:(bf E).length=E.length:=aB _
theorem hS {i:Nat} (h:E[i]? =ac q):(bf E)[i]? =ac (bc q):=by unfold bf;rw[dX,h];rfl
theorem nw (h:R[t]? =ac r):ez (.j R) (ag t)=ac r:=dF h
theorem vg (h:E.length≤100000):aE 1 261 [.l (.j (bf E))] Y (ag (E.filter fun p=>p.2==0).length) [] Y:=yW.of _ _ fun n a=>by
 have C:=fM (n:=n) (g:=261) [0] 0 57 bc E (fun q=>if q.2==0 then[bc q] else[]) [(8,.l (.j (bf E)))] Y fun q b=>by
  cases c:(q.2==0)<;>exact cX 1 [.x c]
 rw[nI] at C;exact aw 0 [.le (m:=b4) (ao (a9 ed) (aD h rfl)),.sub C,.p (ds:=(E.filter fun p=>p.2==0).map bc) (aB _) (ao (hY _ E) (aD h rfl))]
theorem wI:(E.zipIdx.findSome? fun p=>if aM (2≤p.1.2) then ac (ag p.2) else ah)=(en E).map ag:=by
 unfold en;rw[List.findIdx?_eq_findSome?_zipIdx,List.map_findSome?];congr 1;funext p;show _=yn ag (if _ then _ else _)
 split<;>rfl
theorem tB (f:X=.j (bf E)∨X=.c (bf E)) (h:E.length≤100000):aE 1 262 [.l X] Y (ae (gw E)) [] Y:=yW.of _ _ fun n i=>by
 have d:E.length≤16777216:=aD h rfl;rcases f with rfl|rfl
 ·have l:=l4 (n:=n) (g:=262) (b:=none) [0] (fun p=>ag p.2) E.zipIdx (fun p=>if decide (2≤p.1.2) then some (ag p.2) else none) [(8,.l (.j (bf E)))] Y rfl rfl fun j a=>by
   cases c:aM (2≤j.1.2)<;>exact bq 16 [.get (nw (hS (nH a))),.J c]
  rw[wI,←lj] at l;unfold gw;cases e:en E<;>rw[e] at l<;>exact aw 0 [.G ed d,.le h,.sub l]
 ·have l:=l4 (n:=n) (g:=262) (b:=ah) [0] (fun p=>ag p.2) E.zipIdx (fun p=>if aM (2≤p.1.2) then ac (ag p.2) else ah) [(8,.l (.c (bf E)))] Y rfl rfl fun j a=>by
   cases c:aM (2≤j.1.2)<;>exact bq 16 [.get (dF (hS (nH a))),.J c]
  rw[wI,←lj] at l;unfold gw;cases e:en E<;>rw[e] at l<;>exact aw 0 [.p ed d,.le h,.sub l]
theorem zD (h:en E=ac i):i<E.length∧(∀j q,j<i→E[j]? =ac q→q.2<2)∧∃q,E[i]? =ac q∧2≤q.2:=by
 refine ay (QN.mp h) fun a b c=>⟨a,fun j q d f=> ?_,E[i],cS a,dB b⟩;have:=c j d;obtain⟨g,e⟩:=hy.mp f;rw[e] at this;exact f' fun h=>this (cu h)
theorem yX {k p:Nat} (l:E.length≤100000) (h:fq E k p=ac q) (f:p<k):aE 2 263 [.l (.c (bf E)),.l (ag k),.l (ag p)] Y (bc q) [] Y:=yW.of _ _ fun n d=>by
 have b:E.length≤16777216:=aD l rfl;have g:=tB (Y:=Y) (aI rfl) l n d;unfold fq at h;unfold gw at g;induction o:en E with
 |none=>
  rw[o] at h g;exact aw 16 [.call g,.row (hS h)]
 |some i=>
  rw[o] at h g;dsimp only at h;have C:aM (i<0)=false:=rfl;by_cases a:p<i
  ·have h:=aJ a▸h;exact aw 0 [.call g,.A C,.A (cu a),.row (hS h)]
  ·have h:=aL a▸h;have e:=(zD o).1;have Q:((E.length-i-1:Nat):Int)=(E.length:Int)-i-1:=(aS ER (SW ..)).trans ((yh e).trans (Int.sub_sub (E.length:Int) i 1).symm);by_cases c:k≤p+(E.length-i-1)
   ·have h:=aJ c▸h;have G:ez (.c (bf E)) (ae ((E.length:Int)-((k:Int)-p)))=ac (bc q):=(aS (fun z=>ez (.c (bf E)) (ae z)) ((aS ((E.length:Int)+·) (Int.neg_sub ..)).trans ((Int.add_sub_assoc ..).symm.trans (yh (ao c (ao (a9 (f_ ..)) (dc (ao (it ..) (it ..)) p)))).symm))).trans (dF (hS h));exact aw 33751040 [.call g,.A C,.A (cP a),.p ed b,.N (show(k:Int)-((E.length:Int)-i-1)≤(p:Int) from xS (Q▸gq.mpr c)),.p ed b,.get G]
   ·have h:=aL c▸h;exact aw 196608 [.call g,.A C,.A (cP a),.p ed b,.D (show¬(k:Int)-((E.length:Int)-i-1)≤(p:Int) from fun z=>c (gq.mp (lQ (Int.le_add_of_sub_right_le z) (yj (aS ((p:Int)+·) Q.symm))))),.row (hS h)]
theorem r_ (h:E.length≤100000) (a:∀q∈E,q.2<3):aE 1 266 [.l (.j (bf E))] Y (aA ai) [] Y:=yW.of _ _ fun n d=>by
 have c:=fM (n:=n) (g:=266) [0] 0 56 bc E (fun _=>[]) [(8,.l (.j (bf E)))] Y fun q b=>by
  exact cX 1 [.x (c5.mpr (hZ (a q b)))]
 rw[List.flatMap_eq_nil_iff.mpr fun _ _=>rfl] at c;exact aw 0 [.le (m:=b4) (ao (a9 ed) (aD h rfl)),.sub c]
end
noncomputable def nb (A B:List (Nat×Nat)):Bool:= !aM ((A.filter fun p=>p.2==0).length<(B.filter fun p=>p.2==0).length)&&((en B).isSome||((en A).isNone&&aM (A.length≤B.length)))
theorem CW {Y:ar} {A:List (Nat×Nat)} (f:A.length≤100000) (g:B.length≤100000):aE 2 264 [.l (.j (bf A)),.l (.j (bf B))] Y (aA (nb A B)) [] Y:=yW.of _ _ fun n h=>by
 have a:=vg (Y:=Y) f n h;have e:=vg (Y:=Y) g n h;have d:=tB (Y:=Y) (av rfl) f n h;have b:=tB (Y:=Y) (av rfl) g n h;unfold gw at d b;unfold nb;generalize(A.filter fun p=>p.2==0).length=x at*;generalize(B.filter fun p=>p.2==0).length=y at*;have c (i:Nat):aM (i<0)=false:=rfl;have l (i:Nat):aM (0≤i)=true:=rfl;cases C:aM (x<y)
 ·induction j:en B with
  |some i=>
   have b:=j▸b;exact aw 0 [.call a,.call e,.A C,.call b,.J (l i)]
  |none=>
   rw[j] at b;induction k:en A with
   |some i=>
    have d:=k▸d;exact aw 65536 [.call a,.call e,.A C,.call b,.call d,.A (c i)]
   |none=>
    rw[k] at d;cases m:aM (A.length≤B.length)<;>exact aw 2162688 [.call a,.call e,.A C,.call b,.call d,.G ed (aD f rfl),.G ed (aD g rfl),.V m]
 ·exact aw 0 [.call a,.call e,.A C]
theorem H6 (I:aW R) (h:bH R t k O) (b:R.length≤1000000)
  {G:Prop} (q:∀t' r i,aE 5 172 [.l (an 0),.l (ag t)] (aF R::J) (ag t') [] (aF r::J)→aW r→bL R r→r.length≤R.length+1→bH r t' (cM (k++[8])) i→G):G:=by
 refine rT (J:=J) (qs:=[(t,k,O),(4,[8],[4])]) I (aI rfl) (fun q a=>(eS.mp a).elim (fun e=>e▸h) fun a=>bW.mp a▸bH.d I I.un.1) (fun e=>(by injection e)) b fun t' r i c d=>q t' r i (yW.of _ _ fun n f=> ?_) d;exact aw 0 [.call (c n f)]
noncomputable def fK (k:List Nat) (mk:Nat):List Nat:=if mk=1 then cM (k++[8]) else k
theorem tP (I:aW R) {O:List Nat} (h:bH R t k O) (m:mk<3) (g:R.length≤1000000)
  {G:Prop} (q:∀t' r i,aE 6 233 [.l (an 0),.l (bc (t,mk))] (aF R::J) (ag t') [] (aF r::J)→aW r→bL R r→r.length≤R.length+1→bH r t' (fK k mk) i→G):G:=by
 by_cases e:mk=1
 ·refine H6 (J:=J) I h g fun t' r i j a b c d=> ?_;subst e;refine q t' r i (yW.of _ _ fun n f=> ?_) a b c d;exact aw 5 [.call (j n f)]
 ·refine q t R O (yW.of _ _ fun n f=> ?_) I .f (fQ _) (by unfold fK;refine ak (aL e) ?_;exact h);exact aw 17 [.x (c5.mpr (hZ m)),.x (c5.mpr e)]
inductive b6 (R:List aj):List (Nat×Nat)→List (List Nat×Nat)→Prop
 |nil:b6 R [] []
 |cons {e mk:Nat} {k O:List Nat} {E:List (Nat×Nat)} {l:List (List Nat×Nat)}:bH R e k O→mk<3→b6 R E l→b6 R ((e,mk)::E) ((k,mk)::l)
open b6 renaming cons→gO,nil→g9
theorem b6.mono (x:bL R r) (h:b6 R E l):b6 r E l:=h.rec g9 fun a b _ i=>gO (a.mono x) b i
theorem b6.len (h:b6 R E l):E.length=l.length:=by induction h with|nil=>rfl|cons _ _ _ i=>simp[i]
theorem b6.app (h:b6 R E l) (h':b6 R F r):b6 R (E++F) (l++r):=h.rec h' fun a b _ i=>gO a b i
theorem b6.marks (h:b6 R E l):E.map (·.2)=l.map (·.2):=by induction h with|nil=>rfl|cons _ _ _ i=>simp[i]
theorem b6.at (h:b6 R E l) {i:Nat} (e:E[i]? =ac q):∃k O,l[i]? =ac (k,q.2)∧bH R q.1 k O:=by
 induction h generalizing i with
 |nil=>simp at e
 |cons a b _ I=>
  induction i using ir with
  |zero=>simp at e;subst e;exact⟨_,_,rfl,a⟩
  |succ i=>simp at e;exact I e
noncomputable def fH (l:List (List Nat×Nat)):List (List Nat×Nat):=l.map fun p=>(fK p.1 p.2,p.2)
theorem Ob {N:Nat→Prop} {V:a→List aj} {F:a→au} {S:a→ar} {I:List p→a→Prop}
  (s:∀D j r1 x,l=D++j::r1→I D x→∀b:Prop,(∀X vs,I (D++[j]) X→V X=V x++vs→(∀n,N n→iS (dy bw (aZ n) k) (r' (e6 bw k) E t i (f j) (F x) (S x)) vs (F X) (S X))→b)→b) {G:Prop}:
  ∀r d x,l=d++r→I d x→(∀y us,I l y→V y=V x++us→(∀n,N n→∀(Z:d1→Prop) (K:List aj→au→ar→aT),aQ (dy bw (aZ n) k) Z (K us (F y) (S y))→aQ (dy bw (aZ n) k) Z (qG (e6 bw k) E t i (r.map f) (F x) (S x) K))→G)→G:=by
 intro r;induction r with
 |nil=>exact fun d x e h q=>q x [] (by rw[e,c8];exact h) (c8 _).symm fun _ _ _ _ z=>z
 |cons j r g=>
  exact fun d x e h q=>s d j r x e h _ fun X vs m v T=>g _ X (e.trans (rj ..)) m fun y us o u w=>
   q y (vs++us) o (by rw[u,v,ef]) fun n c Z K z=>qn ((T n c).wp (w n c Z _ z))
theorem qN {N:Nat→Prop} (p:List Nat) (i k:Nat) (f:c→aj) (l:List c) (V:a→List aj) (F:a→au) (S:a→ar) (I:List c→a→Prop) (X:a) (m:I [] X) (o:V X=[])
  (s:∀d j r1 x,l=d++j::r1→I d x→∀e:Prop,(∀b vs,I (d++[j]) b→V b=V x++vs→(∀n,N n→iS (dy bw (aZ n) k) (kV g p i k (f j) (F x) (S x)) vs (F b) (S b))→e)→e)
  {G:Prop} (q:∀x,I l x→(∀n,N n→ca bw (aZ n) (ep g p i k (l.map f) (F X) (S X)) (.h (.c (V x))) (F x) (S x))→G):G:=Ob s l [] X rfl m fun x U h u w=>q x h fun n r=>w n r _ _ (aS (fun v=>(cR.h (.c v),F x,S x)) (u.trans (by refine ak o ?_;rfl)).symm)
theorem kR {N:Nat→Prop} {o m:Type} (p:List Nat) (f:o→aj) (l:List o) (F:m→au) (S:m→ar) (I:List o→m→Prop) (k:m) (i:I [] k) (t:ky g p=af)
  (s:∀d j r1 x,l=d++j::r1→I d x→∀r:Prop,(∀X,I (d++[j]) X→gy b (l.map f) (S X)=af→(∀n,N n→fc n g p (he (F k)) (f j) (F x) (S x) a' (F X) (S X))→r)→r)
  {G:Prop} (q:∀x,I l x→(∀n,N n→ca bw (aZ n) (dR g p b (l.map f) (F k) (S k)) a' (F x) (S x))→G):G:=by
 refine bK (sY p f l F S I (fun u x=>u=a'∧I l x) k i t (fun d j r1 x e h=>s d j r1 x e h _ fun X a b c=>cN X a' c (av ⟨av rfl,a,b⟩)) fun x h=>⟨rfl,h⟩) fun _ x y w=> ?_;obtain⟨rfl,h⟩:=y;exact q x h w
def oY (R:List aj) (E:List (Nat×Nat)) (l:List (List Nat×Nat)) (d:List (Nat×Nat)) (x:List (Nat×Nat)×List aj):Prop:=
 ∀h:Prop,(∀D a,l=D++a→aW x.2→bL R x.2→x.2.length≤R.length+d.length→b6 x.2 x.1 (fH D)→(∀r,E=d++r→b6 R r a)→h)→h
section
theorem oY.f (I:aW R) (h:b6 R E l):oY R E l [] ([],R):=fun _ q=>q [] l rfl I .f (bv _) g9 fun r e=>(show E=r from e)▸h
theorem oY.fin (h:oY R E l E x) {G:Prop} (q:aW x.2→bL R x.2→x.2.length≤R.length+E.length→b6 x.2 x.1 (fH l)→G):G:=h _ fun D g e a b c d r=>by
 cases r [] (c8 _).symm;rw[c8] at e;exact q a b c (e▸d)
theorem oY.step (o:oY R E l d x) (e:E=d++j::r1) (s:R.length+E.length≤1000000)
  {G:Prop} (q:∀K O,aW x.2→bH x.2 j.1 K O→j.2<3→x.2.length≤1000000→(∀t' a i,aW a→bL x.2 a→a.length≤x.2.length+1→bH a t' (fK K j.2) i→oY R E l (d++[j]) (x.1++[(t',j.2)],a))→G):G:=o _ fun D b u I X h k c=>by
 cases c _ e with
 | @cons t M K O _ b p m _=>
 refine q K O I (p.mono X) m (ao h (ao (ci (by rw[e,bi];exact bu _ _) _) s)) fun t' a i v g w P=> ?_;refine fun _ q=>q (D++[(K,M)]) b (by rw[u,ef];rfl) v (X.trans g) (ao w (by rw[bi];exact b3 h)) ?_ fun r n=> ?_
 ·unfold fH;rw[cm];exact(k.mono g).app (gO P m g9)
 ·rw[ef] at n;cases c _ n;assumption
theorem uW {N:Nat→Prop} {g:Nat} (p:List Nat) {L:au} (I:aW R) (h:b6 R E l) (z:R.length+E.length≤1000000)
  (s:∀f t mk K O,aW f→bH f t K O→mk<3→f.length≤1000000→∀o:Prop,(∀t' r u,(∀n,N n→iS (dy bw (aZ n) k) (kV g p i k (bc (t,mk)) L (aF f::J)) [W (t',mk)] L (aF r::J))→aW r→bL f r→r.length≤f.length+1→bH r t' (fK K mk) u→o)→o)
  {G:Prop} (q:∀y r,aW r→bL R r→r.length≤R.length+E.length→b6 r y (fH l)→(∀n,N n→ca bw (aZ n) (ep g p i k (bf E) L (aF R::J)) (.h (.c (y.map W))) L (aF r::J))→G):G:=
 qN p i k bc E (fun x:List (Nat×Nat)×List aj=>x.1.map W) (fun _=>L) (fun x=>aF x.2::J) (oY R E l) ([],R) (.f I h) rfl
  (fun D j S x e v o q=>v.step e z fun K O A P m B C=>s x.2 j.1 j.2 K O A P m B _ fun t' r u T F X M Q=>q _ [W (t',j.2)] (C t' r u F X M Q) cm T)
  fun x v w=>v.fin fun a b c d=>q x.1 x.2 a b c d w
end
noncomputable def i' (p:Nat×Nat) (l:List (Nat×Nat)):List (Nat×Nat):=if p∈l then l else l++[p]
theorem IF:q∈i' p l↔q=p∨q∈l:=by
 unfold i';split
 ·rename_i h;exact⟨aI,fun a=>a.elim (fun e=>e▸h) id⟩
 ·simp[or_comm]
theorem PA (h:l.Nodup):(i' p l).Nodup:=by
 unfold i';split
 ·exact h
 ·rename_i i;exact ke.mpr ⟨h,by simp,fun a c b d e=>i (by rw[bW.mp d] at e;exact e▸c)⟩
theorem KY:p∈l→gd (bc p) (ae 1) (cE l)=cE l:=by
 induction l with
 |nil=>exact fun h=>nomatch h
 |cons q l i=>
  refine fun h=>((ak ml ?_):(if aj.beq (bc q) (bc p)=af then(bc q,ae 1)::cE l else(bc q,ae 1)::gd (bc p) (ae 1) (cE l))=_)
  by_cases e:q=p
  ·exact aJ (cu e)
  ·exact(aL (mt dB e)).trans (aS _ (i ((eS.mp h).resolve_left fun E=>e E.symm)))
theorem NB (a:l.length≤1000000):gT (.e (cE l)) (bc p) (ae 1)=ac (.e (cE (i' p l))):=by
 unfold i';split
 ·rename_i h;show(if cT _ _∧(cE l).length≤b4 then ac (b0.e (gd _ _ _)) else ah)=_
  rw[aJ ⟨tF,by unfold cE;rw[aB];exact a⟩,KY h]
 ·rename_i h;exact u2 h a
theorem AM (a b:Nat):f4 (a:Int) ((b:Int)+1)=((cv (b+1-a)).map (a+·)).map ag:=by
 unfold f4;rw[show((b:Int)+1-a).toNat=b+1-a from rq (b+1) a,eg];rfl
noncomputable def jt (A B:List (Nat×Nat)) (n p:Nat):Nat×Nat:=(((fq A n p).getD (0,0)).1,((fq B n p).getD (0,0)).1)
noncomputable def ec (A B:List (Nat×Nat)):Nat:=if(en A).isSome then A.length+B.length else A.length
noncomputable def gi (A:List (Nat×Nat)):Nat:=(A.filter fun p=>p.2==0).length
noncomputable def jP (b:Bool) (c:b0):ig:=match b with
 |true=>bE c
 |false=>.l c.frz
noncomputable def hM (l P:List (Nat×Nat)):List (Nat×Nat):=l.foldl (fun P q=>i' q P) P
theorem LU:∀{l P:List (Nat×Nat)},q∈hM l P↔q∈P∨q∈l:=by
 intro l;induction l with
 |nil=>
  intro P;exact(or_iff_left kh).symm
 |cons a l i=>
  intro P;show q∈hM l (i' a P)↔_;rw[i,IF,eS,or_comm (a:=q=a),or_assoc]
theorem L7:∀{l P:List (Nat×Nat)},P.Nodup→(hM l P).Nodup
 |[],_,h=>h
 |a::l,P,h=>L7 (l:=l) (PA h)
theorem FW:(i' q P).length≤P.length+1:=by
 unfold i';split
 ·exact fQ _
 ·rw[bi];exact bv _
theorem PE:hM (l++[q]) P=i' q (hM l P):=rc
noncomputable def mf (A B:List (Nat×Nat)) (k:Nat):List (Nat×Nat):=(cv k).map (jt A B k)
noncomputable def mB (A B:List (Nat×Nat)) (T:Nat):au:=[(1,.l (an 0)),(39,.l (.j (bf A))),(5,.l (.j (bf B))),(24,.l (ag T))]
noncomputable def mK (A B a b:List (Nat×Nat)) (T:Nat) (x:List (Nat×Nat)×Bool):au:=mB A B T++[(68,jP x.2 (.c (bf a))),(69,jP x.2 (.c (bf b))),(10,bE (.e (cE x.1)))]
section
theorem I3 (z:a.length≤100000) (Z:c.length≤100000) (s:∀p,p<k→(fq a k p).isSome=af∧(fq c k p).isSome=af) (t:k≤100) (P:List (Nat×Nat)) (u:P.length≤20000) (b:Bool)
  {G:Prop} (q:∀b',(hM (mf a c k) P).length≤P.length+100→(∀n,6≤n→ca bw (aZ n) (dR 265 [4,0] ah (f4 0 (jU k)) (mK A B a c T (P,b)++[(65,.l (ag k))]) Y) a' (mK A B a c T (hM (mf a c k) P,b')++[(65,.l (ag k))]) Y)→G):G:=by
 refine kR (N:=(6≤·)) (g:=265) (b:=ah) [4,0] ag (cv k) (fun x=>mK A B a c T x++[(65,.l (ag k))]) (fun _=>Y)
  (fun d x=>x.1=hM (d.map (jt a c k)) P∧x.1.length≤P.length+d.length) (P,b) ⟨rfl,bv _⟩ rfl
  (fun D p r x e f M q=> ?_) fun x h w=> ?_
 ·refine(Hh e).elim fun C E=> ?_;have o:=s p E;refine(mW.mp o.1).elim fun Q i=>(mW.mp o.2).elim fun j m=> ?_;have l:x.1.length≤20100:=by have:=f.2;exact eY (.c 1 .b (.n 100) (.c 1 .f (.n 20000) (.c 1 .g (.a .f .j) (.c 1 .j .l (.c 1 (.a .l .n1) .b (.g 1 .g (.n 20100))))))) rfl t u f.2 (a9 (cB C)) E
  refine q (i' (Q.1,j.1) x.1,ai) ⟨?_,ao FW ?_⟩ rfl fun n v=> ?_
  ·rw[cm];show _=hM (_++[jt a c k p]) P;rw[PE,show jt a c k p=(Q.1,j.1) by unfold jt;rw[i,m];rfl];exact aS (i' _) f.1
  ·rw[bi];exact b3 f.2
  ·have F:=yX (Y:=Y) z i E n (bl v rfl);have I:=yX (Y:=Y) Z m E n (bl v rfl);have L:=NB (p:=(Q.1,j.1)) (aD l rfl);clear l f o i m e s q u;obtain⟨R,b⟩:=x;induction b<;>exact bq 272 [.call F,.call I,.set L]
 ·rw[jW] at q;have y:=h.2;rw[gm] at y;have e:x=(hM (mf a c k) P,x.2):=ur h.1 rfl;exact q x.2 (h.1▸ao y (ci t _)) (e▸w)
theorem Ll (z:a.length≤100000) (Z:b.length≤100000) {l:List Nat} (j:∀k∈l,k≤100∧∀p,p<k→(fq a k p).isSome=af∧(fq b k p).isSome=af) (c:l.length≤101)
  {G:Prop} (q:∀b',(hM (l.flatMap (mf a b)) []).length≤20000→(∀n,6≤n→ca bw (aZ n) (dR 265 [4] ah (l.map ag) (mK A B a b T ([],af)) Y) a' (mK A B a b T (hM (l.flatMap (mf a b)) [],b')) Y)→G):G:=by
 refine kR [4] ag l (mK A B a b T) (fun _=>Y)
  (fun d x=>x.1=hM (d.flatMap (mf a b)) []∧x.1.length≤d.length*100) ([],af) ⟨rfl,cA _⟩ rfl
  (fun D k r x e f u q=> ?_) fun x h w=>q x.2 (h.1▸ao h.2 (aD (pq _ c) rfl)) ((show x=(hM (l.flatMap (mf a b)) [],x.2) from ur h.1 rfl)▸w)
 have o:=j k (eO e);have m:D.length≤101:=by rw[e,bi] at c;exact ao (bu _ _) c
 refine I3 (T:=T) (A:=A) (B:=B) (Y:=Y) z Z o.2 o.1 x.1 (ao f.2 (aD (pq _ m) rfl)) x.2 fun b' s g=>q (hM (mf a b k) x.1,b') ⟨?_, ?_⟩ rfl fun n t=> ?_
 ·rw[f.1];unfold hM;rw[DN,rc,DC]
 ·rw[bi,show(D.length+[k].length)*100=D.length*100+100 from SP _ _];exact ao s (dc f.2 _)
 ·have g:=g n t;have i:k≤100000:=aD o.1 rfl;have i:(wK.le k 100000).e=ac true:=by show ac (aM _)=_;rw[cu i]
  exact bq 0 [.z i,.sub g]
theorem Gk (h:6≤n) (z:A.length≤50) (Z:B.length≤50) (u:P.length≤20000)
  (C:ca bw (aZ n) (ep 265 [1] 0 59 (bf A) (mB A B (ec A B)) Y) (.h (.c (a.map bc))) (mB A B (ec A B)) S)
  (d:ca bw (aZ n) (ep 265 [2] 0 59 (bf B) (mB A B (ec A B)++[(68,bE (.c (bf a)))]) S) (.h (.c (k.map bc))) (mB A B (ec A B)++[(68,bE (.c (bf a)))]) s)
  (w:ca bw (aZ n) (dR 265 [4] ah (f4 (jU (gi A)) (jU (ec A B)+1)) (mK A B a k (ec A B) ([],af)) s) a' (mK A B a k (ec A B) (P,b)) s):
  aZ (n+1) 265 [.l (an 0),.l (.j (bf A)),.l (.j (bf B))] Y (.c (P.map bc)) [] s:=by
 have f:=tB (Y:=Y) (av rfl) (aD z rfl) n (bl h rfl);have l:=vg (Y:=s) (aD z rfl) n (bl h rfl);have c:=fM (n:=n) (g:=265) [5] 0 58 bc P (fun q=>[bc q]) (mB A B (ec A B)++[(68,jP b (.c (bf a))),(69,jP b (.c (bf k))),(10,.l (.e (cE P)))]) s fun q v=>by exact cX 0 []
 have e:P.map bc=(cE P).map (·.1):=by unfold cE;rw[eg];rfl
 have c:=cB kd▸c;have c:=e▸c;refine ak e ?_;have m:((cE P).map (·.1)).length≤b4:=by rw[←e,aB];exact aD u rfl
 have p:(bf A).length≤b4:=ao (a9 ed) (aD z rfl);have r:(bf B).length≤b4:=ao (a9 ed) (aD Z rfl);have t:gi A≤50:=ao (hY _ _) z;unfold ec at C d w c;unfold gw at f;induction o:en A with
 |none=>
  rw[o] at f C d w c;have I:gi A+(A.length+1)≤100000:=aD (dd t (b3 z)) rfl;exact aw 268435472 [.call f,.G ed (aD z rfl),.le p,.sub C,.le r,.sub d,.call l,.le I,.sub w,.le m,.sub c]
 |some i=>
  rw[o] at f C d w c;have I:gi A+(A.length+B.length+1)≤100000:=aD (dd t (b3 (dd z Z))) rfl;exact aw 68719542272 [.call f,.A (i:=i) (j:=0) rfl,.G ed (aD z rfl),.G ed (aD Z rfl),.le p,.sub C,.le r,.sub d,.call l,.le I,.sub w,.le m,.sub c]
end
theorem N3 {R:List aj} {J:ar} (I:aW R) (S:b6 R A κ) (U:b6 R B μ) (Z:A.length≤50) (F:B.length≤50) (V:R.length≤900000)
  (o:∀f u:List (Nat×Nat),f.map (·.2)=A.map (·.2)→u.map (·.2)=B.map (·.2)→∀k p,gi A≤k→k≤ec A B→p<k→(fq f k p).isSome=af∧(fq u k p).isSome=af)
  {G:Prop} (q:∀(f u P:List (Nat×Nat)) (r:List aj),aE 7 265 [.l (an 0),.l (.j (bf A)),.l (.j (bf B))] (aF R::J) (.c (P.map bc)) [] (aF r::J)→aW r→bL R r→r.length≤R.length+A.length+B.length→b6 r f (fH κ)→b6 r u (fH μ)→P.Nodup→
   (∀q,q∈P↔∃k p,gi A≤k∧k≤ec A B∧p<k∧q=jt f u k p)→G):G:=by
 have Y {g i k:Nat} {L:au} {p:List Nat} (h:∀n d t m r s,6≤n→aZ n 233 [.l (an 0),.l (bc (t,m))] (aF d::J) (ag s) [] (aF r::J)→iS (dy bw (aZ n) k) (kV g p i k (bc (t,m)) L (aF d::J)) [bc (s,m)] L (aF r::J)) d t m W O (N:aW d) (E:bH d t W O) (ν:m<3) (l:d.length≤1000000) (α:Prop) (q:∀s r Q,(∀n,6≤n→iS (dy bw (aZ n) k) (kV g p i k (bc (t,m)) L (aF d::J)) [bc (s,m)] L (aF r::J))→aW r→bL d r→r.length≤d.length+1→bH r s (fK W m) Q→α):α:=
  tP N E ν l fun s r Q ξ=>q s r Q fun n v=>h n d t m r s v (ξ n v)
 refine uW (g:=265) (i:=0) (k:=59) [1] (L:=mB A B (ec A B)) I S (dd V (ao Z (show 50≤100000 by decide))) (Y fun n d t m r s v h=>by exact cX 0 [.call h]) fun f d N x β γ C=>uW (g:=265) (i:=0) (k:=59) [2] (L:=mB A B (ec A B)++[(68,bE (.c (bf f)))]) N (U.mono x) (ao (dd (ao β (dd V Z)) F) (by decide:900000+50+50≤1000000)) (Y fun n d t m r s v h=>by exact cX 0 [.call h]) fun u δ ο ε π ζ ρ=> ?_;have M:f.map (·.2)=A.map (·.2):=by rw[γ.marks,S.marks];exact eg ..
 have η:u.map (·.2)=B.map (·.2):=by rw[ζ.marks,U.marks];exact eg ..
 have θ {X y:List (Nat×Nat)} (h:X.map (·.2)=y.map (·.2)) (σ:y.length≤50):X.length≤100000:=by rw[←aB,h,aB];exact aD σ rfl
 have ι:ec A B≤100:=by unfold ec;split;exact dd Z F;exact aD Z rfl
 have D:∀k,k∈(cv (ec A B+1-gi A)).map (gi A+·)↔gi A≤k∧k≤ec A B:=fun k=>by
  rw[cr];exact⟨fun z=>ay z fun j h e=>e▸⟨bu _ _,iW (Nat.add_lt_of_lt_sub' (hB.mp h))⟩,fun h=>bd (k-gi A) (hB.mpr (Nat.sub_lt_sub_right h.1 (t0 h.2))) (ra h.1)⟩
 refine Ll (A:=A) (B:=B) (T:=ec A B) (Y:=aF δ::J) (θ M Z) (θ η F) (fun k h=>⟨ao ((D k).mp h).2 ι,fun p E=>o f u M η k p ((D k).mp h).1 ((D k).mp h).2 E⟩)
  (by rw[aB,gm];exact ao (it _ _) (b3 ι)) fun τ l w=> ?_
 rw[←AM] at w;refine q f u _ δ (yW.of _ _ fun n v=>Gk v Z F l (C n v) (ρ n v) (w n v)) ο (x.trans ε) (ao π (dc β _)) (γ.mono ε) ζ (L7 h7) fun q=> ?_;rw[LU,or_iff_right kh,pz]
 exact⟨fun z=>ay z fun k h e=>ay (cr.mp e) fun p E e=>hK k p (((D k).mp h).1) (((D k).mp h).2) (hB.mp E) e.symm,
  fun z=>ii z fun k p a b c e=>bd k ((D k).mpr ⟨a,b⟩) (cr.mpr ⟨p,hB.mpr c,e.symm⟩)⟩
noncomputable def ip (R:List aj) (t:Nat):List Nat:=by
 classical exact if h:∃k O,bH R t k O then h.choose else[]
theorem hx (I:aW R) (h:bH R t k O):ip R t=k:=by
 unfold ip;have x:∃k O,bH R t k O:=oZ k O h;refine ak (dif_pos x) ?_;obtain⟨i,a⟩:=x.choose_spec;exact(mL I a h).1
noncomputable def fj (R:List aj) (p:Nat×Nat):Bool:=cz (ip R p.1) (ip R p.2)
noncomputable def fI (R:List aj) (P:List (Nat×Nat)):Nat:=(P.map fun p=>(ip R p.1).length+1).sum
theorem P0:fI R (p::P)=(ip R p.1).length+1+fI R P:=by unfold fI;simp
theorem zc:fI R (P++Q)=fI R P+fI R Q:=by unfold fI;simp
structure xm (ro:Bool) (m M:bh) (a s:Prop):Prop where
 no:(ro=af∨m.tel=ai∨s)→M.N=m.N
 yes:ro=ai→m.tel=af→a→¬s→m.N<M.N
theorem xm.snoc {p:Nat×Nat} (t:xm ro m M True (∀q∈d,q.1=q.2)) (N:m.N≤M.N) (h:g.N=if ro=ai∧m.tel=af∧p.1≠p.2 then M.N+1 else M.N):xm ro m g True (∀q∈d++[p],q.1=q.2):=by
 have i:p∈d++[p]:=eD _ (cU _);refine⟨fun a=> ?_,fun r f _ s=> ?_⟩
 ·rw[h,aL fun c=> ?_,t.no (a.imp id fun a=>a.imp id fun a q b=>a q (cG _ b))];exact a.elim (fun e=>nomatch e.symm.trans c.1) fun a=>a.elim (fun e=>nomatch e.symm.trans c.2.1) fun e=>c.2.2 (e p i)
 ·rw[h];by_cases e:p.1=p.2
  ·rw[aL fun c=>c.2.2 e];exact t.yes r f trivial fun a=>s fun q b=>(dD.mp b).elim (a q) fun b=>bW.mp b▸e
  ·rw[aJ ⟨r,f,e⟩];exact t0 N
noncomputable def cK.E (h:(i !=0)=b):cK a:=.z (o:=hH (ag i)) (v:=b) (by subst h;show ac (!aM ((i:Int)=((0:Nat):Int)))=_;rw[n7.mpr El];rfl)
theorem qF {N:Nat→Prop} {r o:Type} (p:List Nat) (f:r→aj) (l:List r) (F:o→au) (S:o→ar) (I:List r→o→Prop) (Q:cR→o→Prop) (m:o) (i:I [] m) (u:ky g p=af)
  (s:∀d j r1 x,l=d++j::r1→I d x→∀t:Prop,(∀X,I (d++[j]) X→gy b (l.map f) (S X)=af→(∀n,N n→fc n g p (he (F m)) (f j) (F x) (S x) a' (F X) (S X))→t)→
   (∀k X,Q (qB k) X→qZ k=af→(∀n,N n→fc n g p (he (F m)) (f j) (F x) (S x) k (F X) (S X))→t)→t)
  (v:∀x,I l x→Q a' x) {G:Prop} (q:∀k x,Q k x→(∀n,N n→ca bw (aZ n) (dR g p b (l.map f) (F m) (S m)) k (F x) (S x))→G):G:=bK (sY p f l F S I Q m i u (fun d j r1 x e h=>s d j r1 x e h _ (fun X a b c=>cN X a' c (av ⟨av rfl,a,b⟩)) fun k X a b c=>cN X k c (aI ⟨b,a⟩)) v) fun k x h w=>q k x h w
structure KQ (R:List aj) (Pr:List (Nat×Nat)) (m:bh) (ro:Bool) (d:List (Nat×Nat)) (M:bh):Prop where
 all:d.all (fj R)=af
 g:dU R Pr m M (fI R d)
 tw:d6 M.tw
 tl:xm ro m M True (∀p∈d,p.1=p.2)
structure FP (R:List aj) (Pr:List (Nat×Nat)) (m:bh) (ro:Bool) (d:List (Nat×Nat)) (M:bh):Prop where
 g:dU R Pr m M (fI R d)
 tw:d6 M.tw
 tl:xm ro m M (d.all (fj R)=af) (∀p∈d,p.1=p.2)
theorem dU.withN {N:Nat} (g:dU R Pr m M c) (h:M.N≤N) (a:N≤m.N+c) (b:N≤100000):dU R Pr m {M with tw:=t,N:=N} c:=
 ⟨⟨g.ok.nd,g.ok.kt,g.ok.kok,g.ok.aok,g.ok.len,g.ok.a,b⟩,g.dp,ao g.N h,a,g.tel,g.n,g.l,g.tr,g.i,g.kf⟩
theorem KT (I:aW R) (h:bH R p.1 k O) (c:bH R p.2 k' w) (r:∀p∈Pr,∃l,cg R p.1 l)
  (f:m.a+fI R (d++[p])≤20000) (j:m.dp<59) (n:m.tr≠[]) (i:KQ R Pr m ro d b)
  {G:Prop} (q:∀M,aE 17 4921 [.l (an 2),.l (ag p.1),.l (ag p.2)] (b.st R) (aA (fj R p)) [] (M.st R)→dU R Pr m M (fI R (d++[p]))→M.N=b.N→b.N+1≤m.N+fI R (d++[p])→M.tel=m.tel→d6 M.tw→G):G:=by
 have E:fI R (d++[p])=fI R d+(k.length+1):=by rw[zc,P0,hx I h];rfl
 rw[E] at f q;refine i.g.tr.elim fun X o=> ?_;refine(N_ I i.g.ok h c (fun q s=>by
  obtain⟨l,g⟩:=r q s;refine⟨fun e=>h.notLI (e▸g),fun t=>(ay (h.to _ t) fun u _ v=> ?_)⟩;exact(bH.d I v).notLI g) (ao (dc i.g.l (k.length+1)) (ao (a9 (ev ..)) f)) (i.g.dp▸j) (fun e=>n (pk.mp (o▸e)).1)).elim fun M z=>z.elim fun A a=> ?_
 refine q M ?_ (i.g.trans a.todU) a.eN ?_ (a.tel.trans i.g.tel) (a.tw▸i.tw)
 ·unfold fj;exact ak (hx I h) (ak (hx I c) A)
 ·exact ao (dd i.g.j (b3 (cA k.length))) (a9 (ev ..))
theorem xE {m:bh} (I:aW R) (U:eC R Pr m) (u:d6 m.tw) (V:∀p∈P,∃k O k' y,bH R p.1 k O∧bH R p.2 k' y) (X:∀p∈Pr,∃l,cg R p.1 l)
  (Z:m.a+fI R P≤20000) (α:m.N+fI R P≤90000) (β:m.dp<59) (γ:m.tr≠[])
  {G:Prop} (q:∀M,aE 18 268 [.l (an 2),.l (.c (P.map bc)),.l (ag ro)] (m.st R) (aA (P.all (fj R))) [] (M.st R)→FP R Pr m (ro !=0) P M→G):G:=by
 refine qF (N:=(17≤·)) (g:=268) (b:=ah) [0] bc P (fun _:bh=>[(27,.l (an 2)),(71,.l (.c (P.map bc))),(72,.l (ag ro))]) (fun m=>m.st R) (KQ R Pr m (ro !=0)) (fun f s=>f=(if P.all (fj R) then a' else .h (aA ai))∧FP R Pr m (ro !=0) P s)
  m ⟨rfl,.f U,u,⟨fun _=>rfl,fun _ _ _ h=>aR (fun _ h=>(by cases h)) h⟩⟩ rfl
  (fun d p r s e i κ Q δ=> ?_) (fun s i=>⟨by rw[i.all];rfl,i.g,i.tw,i.tl.no,fun a b _=>i.tl.yes a b trivial⟩) fun f s h w=> ?_
 ·have ε:P=(d++[p])++r:=by rw[e,ef];rfl
  have u:fI R (d++[p])≤fI R P:=by rw[ε,zc (P:=d++[p])];exact bu _ _
  refine sp (V p (eO e)) fun k O k' y C F=>KT I C F X (ao (ci u _) Z) β γ i fun M A g E L t W=> ?_;have v:P.all (fj R)=(fj R p&&r.all (fj R)):=by rw[e,ya,i.all,m0];rfl
  have D:(d++[p]).all (fj R)=fj R p:=ak ya (ak i.all (ak m0 (n9 _)));induction S:fj R p with
  |false=>
   rw[S] at A v;refine δ (.h (aA ai)) M ⟨by refine ak v ?_;rfl,g.le u,W,fun h=>E.trans (i.tl.no (h.imp id fun h=>h.imp id fun h q ζ=>h q (e▸cG _ ζ))),fun _ _ h=>nomatch v.symm.trans h⟩ rfl fun n j=> ?_;have A:=A n j;exact bq 0 [.call A]
  |true=>
   rw[S] at A D;refine(GB I C F W (ao (a9 E) (aD i.g.ok.N rfl))).elim fun T z=>z.elim fun B η=> ?_;rcases Q' (ro !=0) with o|o
   ·refine Q M ⟨D,g,W,i.tl.snoc i.g.N (by refine ak (if_neg fun c=>Bool.false_ne_true (c.1.symm.trans o)) ?_;exact E)⟩ rfl fun n j=> ?_;have A:=A n j;exact bq 16 [.call A,.E o]
   ·have x:(if M.tel=af∧p.1≠p.2 then M.N+1 else M.N)≤s.N+1∧M.N≤if M.tel=af∧p.1≠p.2 then M.N+1 else M.N:=by refine ak E ?_;split;exact⟨bv _,fQ _⟩;exact⟨fQ _,bv _⟩
    refine Q _ ⟨D,g.withN x.2 (ao x.1 L) (ao x.1 (ao L (aD (ao (ci u m.N) α) rfl))),η,i.tl.snoc i.g.N ?_⟩ rfl fun n j=> ?_
    ·refine ak E ?_;refine ak t (ak o ?_);simp only[true_and]
    ·have A:=A n j;exact bq 16 [.call A,.E o,.call (B n (bl j rfl))]
 ·refine h.elim fun θ ι=>q s (yW.of _ _ fun n j=> ?_) ι;have w:=w n j;rw[θ] at w;cases e:P.all (fj R)<;>rw[e] at w<;>exact aw 0 [.sub w]
theorem o3 {a:aK} (h:(p=p'∧n>p+a.ts.length∧n'>p+a.ts.length)∨(a.fr≤p∧a.fr≤p'∧n≤p+a.ts.length∧n'≤p'+a.ts.length∧n-p=n'-p'∧p≤n∧p'≤n')∨(a.fr≤p∧a.fr≤p'∧n>p+a.ts.length∧n'>p'+a.ts.length)):a.slot n p=a.slot n' p':=by
 unfold aK.slot aK.fr at*;rcases h with⟨rfl,b,d⟩|⟨b,d,e,f,g,i,j⟩|⟨b,d,e,f⟩
 ·rw[if_neg (show¬n≤p+a.ts.length by exact Nat.not_le_of_lt (b5 (.c 1 (.a (.a .b .f) .n1) .g (.g 1 (.a (.a .b .f) .n1) .g)) rfl b)),if_neg (show¬n'≤p+a.ts.length by exact Nat.not_le_of_lt (b5 (.c 1 (.a (.a .b .f) .n1) .g (.g 1 (.a (.a .b .f) .n1) .g)) rfl d))]
 ·rw[if_neg (show¬p<a.hs.length by exact Nat.not_lt_of_le (b5 (.c 1 (.a .b .f) .g (.g 1 .b .g)) rfl b)),if_neg (show¬p<a.hs.length+a.os.length by exact Nat.not_lt_of_le (b5 (.c 1 (.a .b .f) .g (.g 1 (.a .b .f) .g)) rfl b)),if_pos e,if_neg (show¬p'<a.hs.length by exact Nat.not_lt_of_le (b5 (.c 1 (.a .b .f) .g (.g 1 .b .g)) rfl d)),if_neg (show¬p'<a.hs.length+a.os.length by exact Nat.not_lt_of_le (b5 (.c 1 (.a .b .f) .g (.g 1 (.a .b .f) .g)) rfl d)),if_pos f,
   show p+a.ts.length-n=p'+a.ts.length-n' by exact Nat.le_antisymm (qg (.c 1 .b .f (.c 1 (.a .g .j) (.a .l .o) (.c 1 .o (.a .b .g) (.c 1 (.a .p .q) (.a .r .j) (.c 1 (.a .f .r) .q (.g 1 .p .l)))))) rfl (Nat.le_of_eq (Eq.symm g)) (Nat.sub_le_iff_le_add.mp (Nat.le_refl (p'+a.ts.length-(n')))) (Nat.sub_le_iff_le_add.mp (Nat.le_refl (n'-(p')))) (Nat.le_of_eq (Nat.sub_add_cancel e)) (Nat.le_of_eq (Nat.sub_add_cancel i))) (qg (.c 1 .b .f (.c 1 (.a .g .j) (.a .l .o) (.c 1 .o (.a .b .g) (.c 1 (.a .p .q) (.a .r .j) (.c 1 (.a .f .r) .q (.g 1 .p .l)))))) rfl (Nat.le_of_eq g) (Nat.sub_le_iff_le_add.mp (Nat.le_refl (p+a.ts.length-(n)))) (Nat.sub_le_iff_le_add.mp (Nat.le_refl (n-(p)))) (Nat.le_of_eq (Nat.sub_add_cancel f)) (Nat.le_of_eq (Nat.sub_add_cancel j)))]
 ·rw[if_neg (show¬p<a.hs.length by exact Nat.not_lt_of_le (b5 (.c 1 (.a .b .f) .g (.g 1 .b .g)) rfl b)),if_neg (show¬p<a.hs.length+a.os.length by exact Nat.not_lt_of_le (b5 (.c 1 (.a .b .f) .g (.g 1 (.a .b .f) .g)) rfl b)),if_neg (show¬n≤p+a.ts.length by exact Nat.not_le_of_lt (b5 (.c 1 (.a (.a .b .f) .n1) .g (.g 1 (.a (.a .b .f) .n1) .g)) rfl e)),if_neg (show¬p'<a.hs.length by exact Nat.not_lt_of_le (b5 (.c 1 (.a .b .f) .g (.g 1 .b .g)) rfl d)),if_neg (show¬p'<a.hs.length+a.os.length by exact Nat.not_lt_of_le (b5 (.c 1 (.a .b .f) .g (.g 1 (.a .b .f) .g)) rfl d)),if_neg (show¬n'≤p'+a.ts.length by exact Nat.not_le_of_lt (b5 (.c 1 (.a (.a .b .f) .n1) .g (.g 1 (.a (.a .b .f) .n1) .g)) rfl f))]
theorem zK {a b:aK} (o:a.Ok) (w:b.Ok) (d:max a.fr b.fr+max a.ts.length b.ts.length<N) (u:a.rs=[]→a.fr≤N) (t:∀n,a.let n→b.let n)
  (h:∀n,n≤N→a.let n→∀p,p<n→cz (a.slot n p) (b.slot n p)=af):∀n,a.let n→∀p,p<n→cz (a.slot n p) (b.slot n p)=true:=by
 intro n l p f;by_cases g:n≤N
 ·exact h n g l p f
 have v:a.rs≠[]:=fun e=>by
  have s:=u e;have:=l.2.resolve_left (fun h=>h e);rw[(gl fun h=>o.ts h e)] at this;unfold aK.fr at s;simp at this;exact kY 0 (b7 (.c 1 (.a .b .n1) .f (.c 1 (.a .g .j) .b (.c 1 .f (.a .g .j) (.g 1 .n1 .n0)))) rfl (f' g) s this)
 have m:a.let N:=⟨by have:=l.1;unfold aK.fr at d;exact j' (.c 1 (.a (.a .b .f) .n1) .g (.c 1 (.a .j .l) .b (.c 1 .o .f (.g 1 (.a .j .o) .g)))) rfl d (iY (a.hs.length+a.os.length) (b.hs.length+b.os.length)) (iY (a.ts.length) (b.ts.length)),av v⟩
 by_cases r:p<max a.fr b.fr
 ·rw[o3 (n':=N) (p':=p) (av ⟨rfl,by exact j' (.c 1 (.a (.a .b .f) .n1) .g (.c 1 (.a .g .n1) .j (.c 1 (.a .l .n1) .b (.c 1 .o .f (.g 1 (.a (.a .l .o) .n1) .j))))) rfl d (f' g) r (iY (a.ts.length) (b.ts.length)),eY (.c 1 (.a (.a .b .f) .n1) .g (.c 1 (.a .j .n1) .b (.c 1 .l .f (.g 1 (.a (.a .j .l) .n1) .g)))) rfl d r (iY (a.ts.length) (b.ts.length))⟩),o3 (n:=n) (n':=N) (p':=p) (av ⟨rfl,j' (.c 1 (.a (.a .b .f) .n1) .g (.c 1 (.a .g .n1) .j (.c 1 (.a .l .n1) .b (.c 1 .o .f (.g 1 (.a (.a .l .o) .n1) .j))))) rfl d (f' g) r (mZ (a.ts.length) (b.ts.length)),eY (.c 1 (.a (.a .b .f) .n1) .g (.c 1 (.a .j .n1) .b (.c 1 .l .f (.g 1 (.a (.a .j .l) .n1) .g)))) rfl d r (mZ (a.ts.length) (b.ts.length))⟩)];exact h N (bv _) m p (b7 (.c 1 (.a (.a .b .f) .n1) .g (.c 1 (.a .j .n1) .b (.g 1 (.a .j .n1) .g))) rfl d r)
 ·by_cases q:n-p≤max a.ts.length b.ts.length
  ·have k:∀c:aK,c.fr≤max a.fr b.fr→c.slot n p=c.slot N (N-(n-p)):=fun c i=>by
    by_cases j:n≤p+c.ts.length
    ·exact o3 (aI (av ⟨b5 (.c 1 .b .f (.c 1 .g .b (.g 1 .g .f))) rfl (dC r) i,j' (.c 1 (.a (.a .b .f) .n1) .g (.c 1 .j .f (.c 1 .l .b (.c 1 .g (.a .o .j) (.g 1 .l .o))))) rfl d q i (g3.mp (bv (N-(n-p)))),j,j' (.c 1 .b (.a .f .g) (.c 1 .j (.a .l .o) (.c 1 (.a .o .f) .b (.g 1 .j (.a .l .g))))) rfl j (g3.mp (bv (N-(n-p)))) (a9 (fi (show p≤n from cD (.c 1 (.a .b .n1) .f (.g 1 .b .f)) rfl f))),e8 (b7 (.c 1 .b (.a .f .g) (.c 1 (.a .g .j) .b (.g 1 .j .f))) rfl (g3.mp (bv (N-(N-(n-p))))) (a9 (fi (show n-p≤N from b7 (.c 1 (.a (.a .b .f) .n1) .g (.c 1 .j .f (.g 1 .j .g))) rfl d q)))) (b7 (.c 1 .b (.a .f .g) (.c 1 (.a .j .f) .b (.g 1 .j .g))) rfl (g3.mp (bv (N-(n-p)))) (a9 (fi (show N-(n-p)≤N from cD (.c 1 .b .f (.g 1 .b .f)) rfl (it (N) (n-p)))))),cD (.c 1 (.a .b .n1) .f (.g 1 .b .f)) rfl f,cD (.c 1 .b .f (.g 1 .b .f)) rfl (it (N) (n-p))⟩))
    ·exact o3 (aI (aI ⟨b5 (.c 1 .b .f (.c 1 .g .b (.g 1 .g .f))) rfl (dC r) i,j' (.c 1 (.a (.a .b .f) .n1) .g (.c 1 .j .f (.c 1 .l .b (.c 1 .g (.a .o .j) (.g 1 .l .o))))) rfl d q i (g3.mp (bv (N-(n-p)))),b5 (.c 1 (.a (.a .b .f) .n1) .g (.g 1 (.a (.a .b .f) .n1) .g)) rfl (f' j),j' (.c 1 (.a (.a .b .f) .n1) .g (.c 1 .g (.a .j .b) (.c 1 (.a .l .j) .o (.g 1 (.a (.a .l .f) .n1) .o)))) rfl (f' j) (g3.mp (bv (n-(p)))) (a9 (fi (show n-p≤N from b7 (.c 1 (.a (.a .b .f) .n1) .g (.c 1 .j .f (.g 1 .j .g))) rfl d q)))⟩))
   rw[k a (cD (.c 1 .b .f (.g 1 .b .f)) rfl (iY (a.fr) (b.fr))),k b (cD (.c 1 .b .f (.g 1 .b .f)) rfl (mZ (a.fr) (b.fr)))];exact h N (bv _) m _ (eY (.c 1 (.a .b .n1) .f (.c 1 .f (.a .g .b) (.c 1 (.a .j .g) .l (.g 1 (.a .j .n1) .l)))) rfl f (g3.mp (bv (n-(p)))) (a9 (fi (show n-p≤N from b7 (.c 1 (.a (.a .b .f) .n1) .g (.c 1 .j .f (.g 1 .j .g))) rfl d q))))
  ·rw[o3 (n':=N) (p':=max a.fr b.fr) (aI (aI ⟨by exact b5 (.c 1 .b .f (.c 1 .g .b (.g 1 .g .f))) rfl (dC r) (iY (a.fr) (b.fr)),cD (.c 1 .b .f (.g 1 .b .f)) rfl (iY (a.fr) (b.fr)),by exact eY (.c 1 (.a .b .n1) .f (.c 1 .g .b (.c 1 (.a .f .j) .l (.g 1 (.a (.a .j .g) .n1) .l)))) rfl (f' q) (iY (a.ts.length) (b.ts.length)) (a9 (fi (show p≤n from cD (.c 1 (.a .b .n1) .f (.g 1 .b .f)) rfl f))),b7 (.c 1 (.a (.a .b .f) .n1) .g (.c 1 .j .f (.g 1 (.a (.a .b .j) .n1) .g))) rfl d (iY (a.ts.length) (b.ts.length))⟩)),o3 (n':=N) (p:=p) (p':=max a.fr b.fr) (aI (aI ⟨b5 (.c 1 .b .f (.c 1 .g .b (.g 1 .g .f))) rfl (dC r) (mZ (a.fr) (b.fr)),cD (.c 1 .b .f (.g 1 .b .f)) rfl (mZ (a.fr) (b.fr)),by exact eY (.c 1 (.a .b .n1) .f (.c 1 .g .b (.c 1 (.a .f .j) .l (.g 1 (.a (.a .j .g) .n1) .l)))) rfl (f' q) (mZ (a.ts.length) (b.ts.length)) (a9 (fi (show p≤n from cD (.c 1 (.a .b .n1) .f (.g 1 .b .f)) rfl f))),b7 (.c 1 (.a (.a .b .f) .n1) .g (.c 1 .j .f (.g 1 (.a (.a .b .j) .n1) .g))) rfl d (mZ (a.ts.length) (b.ts.length))⟩))];exact h N (bv _) m _ (b5 (.c 1 (.a (.a .b .f) .n1) .g (.g 1 (.a .b .n1) .g)) rfl d)
theorem nc {a:aK}:a.els.length=a.hs.length+a.os.length+a.rs.length+a.ts.length:=by unfold aK.els;simp;exact e8 (b7 (.g 1 (.a .b (.a .f (.a .g .j))) (.a (.a (.a .b .f) .g) .j)) rfl) (b7 (.g 1 (.a (.a (.a .b .f) .g) .j) (.a .b (.a .f (.a .g .j)))) rfl)
theorem oK {a:aK} (o:a.Ok):(∀p,p<a.hs.length→a.els[p]? =ac ((a.hs[p]?).getD [],0))∧(∀p,p<a.os.length→a.els[a.hs.length+p]? =ac ((a.os[p]?).getD [],1))∧
  (a.rs≠[]→a.els[a.fr]? =ac ((a.rs[0]?).getD [],2))∧(∀p,p<a.ts.length→a.els[a.fr+1+p]? =ac ((a.ts[p]?).getD [],0)):=by
 unfold aK.els aK.fr;refine nf (fun p b=> ?_) (fun p b=> ?_) (fun h=> ?_) (fun p b=> ?_)
 ·rw[jF (by simp;exact b7 (.c 1 (.a .b .n1) .f (.g 1 (.a .b .n1) (.a .f (.a .g .j)))) rfl b),jF (by simp;exact b5 (.c 1 (.a .b .n1) .f (.g 1 (.a .b .n1) (.a .f .g))) rfl b),jF (by simpa using b),dX];rw[cS b];rfl
 ·rw[jF (by simp;exact b5 (.c 1 (.a .b .n1) .f (.g 1 (.a .b .n1) (.a .f .g))) rfl b),jF (by simp;exact cD (.c 1 (.a .b .n1) .f (.g 1 (.a .b .n1) .f)) rfl b),jE (by simp),dX];simp only[aB,Dw];rw[cS b];rfl
 ·have l:=jf.mpr h;rw[jF (by simp;exact dN (.c 1 (.a .n0 .n1) .b (.g 1 (.a .n0 .n1) .b)) rfl l),jE (by simp),dX];simp only[bi,aB,pE];refine ak (cS l) ?_;rfl
 ·have r:a.rs.length=1:=by
   have d:=o.rs;have:=jf.mpr (o.ts (fun e=>by rw[e] at b;simp at b));exact e8 (dN (.c 1 .b .n1 (.g 1 .b .n1)) rfl d) (dN (.c 1 (.a .n0 .n1) .b (.g 1 .n1 .b)) rfl this)
  rw[jE (by simp;exact b7 (.c 1 .b .n1 (.g 1 (.a .f (.a .g .b)) (.a (.a (.a .f .g) .n1) .j))) rfl (a9 r)),dX];simp only[bi,aB,r];rw[show a.hs.length+a.os.length+1+p-(a.hs.length+a.os.length+1)=p by exact e8 (b7 (.c 1 (.a .b (.a (.a .f .g) .n1)) (.a (.a (.a .f .g) .n1) .j) (.g 1 .b .j)) rfl (a9 (fi (show a.hs.length+a.os.length+1≤a.hs.length+a.os.length+1+p from b5 (.g 1 (.a (.a .b .f) .n1) (.a (.a (.a .b .f) .n1) .g)) rfl)))) (b7 (.c 1 (.a (.a (.a .b .f) .n1) .g) (.a .j (.a (.a .b .f) .n1)) (.g 1 .g .j)) rfl (g3.mp (bv (a.hs.length+a.os.length+1+p-(a.hs.length+a.os.length+1))))),cS b];rfl
theorem p1:en E=(E.map (·.2)).findIdx? fun m=>aM (2≤m):=by
 refine ak (List.findIdx?_map) ?_;rfl
theorem aK.marks {a:aK}:a.els.map (·.2)=cx a.hs.length 0++cx a.os.length 1++cx a.rs.length 2++cx a.ts.length 0:=by
 unfold aK.els;simp only[cm,eg];congr 1
 ·congr 1
  ·congr 1<;>(rw[DE];simp)
  ·rw[DE];simp
 ·rw[DE];simp
theorem kb {a:aK} (o:a.Ok) (h:E.map (·.2)=a.els.map (·.2)):en E=if a.rs=[] then ah else ac a.fr:=by
 rw[p1,h,aK.marks];split
 ·rename_i r;rw[List.findIdx?_eq_none_iff,r,(gl fun h=>o.ts h r)];intro x b;simp at b;rcases b with⟨_,rfl⟩|⟨_,rfl⟩<;>rfl
 ·rename_i r;have l:a.rs.length=1:=by have u:=List.length_pos_iff.mpr r;have U:=o.rs;exact Nat.le_antisymm (dN (.c 1 .b .n1 (.g 1 .b .n1)) rfl U) (dN (.c 1 (.a .n0 .n1) .b (.g 1 .n1 .b)) rfl u)
  rw[List.findIdx?_eq_some_iff_getElem];unfold aK.fr;refine bd (by simp[l]) (?_) (fun j c=> ?_)
  ·simp[l,List.getElem_append]
  ·simp only[List.length_append,List.length_replicate,List.getElem_append,List.getElem_replicate,l];rw[dif_pos (by exact b5 (.c 1 (.a .b .n1) (.a .f .g) (.g 1 (.a .b .n1) (.a (.a .f .g) .n1))) rfl c),dif_pos (by exact b5 (.c 1 (.a .b .n1) (.a .f .g) (.g 1 (.a .b .n1) (.a .f .g))) rfl c)];split<;>simp
theorem s0 {a:aK} (h:E.map (·.2)=a.els.map (·.2)):gi E=a.hs.length+a.ts.length:=by
 unfold gi;have:(E.filter fun p=>p.2==0).length=((E.map (·.2)).filter (·==0)).length:=by rw[List.filter_map,aB];rfl
 rw[this,h,aK.marks];simp[pv,List.filter_replicate]
theorem xr (I:aW R) (h:b6 R E (fH l)) {i:Nat} (c:E[i]? =ac q) (d:l[i]? =ac (k,mk)):ip R q.1=fK k mk∧∃O,bH R q.1 (fK k mk) O:=by
 refine bK (h.at c) fun e O a b=> ?_;unfold fH at a;rw[dX,d] at a;simp only[n5,lN,Ea] at a;exact ak a.1 (⟨hx I b,O,b⟩)
theorem qb {a:aK} (o:a.Ok) (r:a.rs=[]):a.ts=[]:=gl fun h=>o.ts h r
theorem vr {a:aK} (o:a.Ok) (h:¬a.rs=[]):a.rs.length=1:=e8 o.rs (jf.mpr h)
theorem l2 {a:aK} {E:List (Nat×Nat)} (h:E.map (·.2)=a.els.map (·.2)):E.length=a.hs.length+a.os.length+a.rs.length+a.ts.length:=by
 rw[←nc,←aB,h,aB]
theorem Ng {a:aK} (o:a.Ok) (h:p<a.fr) {G:Prop} (q:∀k mk,a.els[p]? =ac (k,mk)→fK k mk=a.slot n p→G):G:=by
 have e:=oK o;unfold aK.slot at q;by_cases b:p<a.hs.length
 ·exact q _ _ (e.1 p b) (by rw[aJ b];rfl)
 ·have c:=e.2.1 (p-a.hs.length) (tT (dC b) h);rw[ra (dC b)] at c;exact q _ _ c (by rw[aL b,aJ (show p<a.hs.length+a.os.length from h)];rfl)
theorem sn {a:aK} (o:a.Ok) (j:a.let n) (g:p<n) {G:Prop} (q:∀(i:Nat) (k:List Nat) (mk:Nat),a.els[i]? =ac (k,mk)→fK k mk=a.slot n p→(∀E:List (Nat×Nat),E.map (·.2)=a.els.map (·.2)→fq E n p=E[i]?)→G):G:=by
 by_cases f:p<a.fr
 ·exact Ng o f fun k mk l m=>q p k mk l m fun E b=>by
   unfold fq;rw[kb o b];by_cases r:a.rs=[]
   ·rw[aJ r]
   ·rw[aL r];exact aJ f
 ·have r:=fun r=>f (ft g (by have:=j.2.resolve_left fun h=>h r;rw[qb o r] at this;exact this));have R:=vr o r;have e:=(oK o).2.2;have z:∀E:List (Nat×Nat),E.map (·.2)=a.els.map (·.2)→E.length=a.fr+1+a.ts.length:=fun E b=>R▸l2 b;have d:∀E:List (Nat×Nat),E.map (·.2)=a.els.map (·.2)→fq E n p=if n≤p+a.ts.length then E[a.fr+1+(p+a.ts.length-n)]?else E[a.fr]? :=fun E b=>by
   unfold fq;rw[kb o b,aL r];show(if p<a.fr then E[p]?else if n≤p+(E.length-a.fr-1) then E[E.length+p-n]?else E[a.fr]?)=_
   rw[aL f,z E b,SW,Dw];split
   ·rw[ev _ _ p,f_ _ p,Nat.add_sub_assoc (by assumption)]
   ·rfl
  unfold aK.slot at q;rw[aL (fun h=>f (ft h (bu _ _))),aL (show¬p<a.hs.length+a.os.length from f)] at q;by_cases c:n≤p+a.ts.length
  ·simp only[aJ c] at d q;exact q _ _ _ (e.2 _ (tT c (xV g _))) rfl d
  ·simp only[aL c] at d q;exact q _ _ _ (e.1 r) rfl d
theorem CE {R:List aj} (I:aW R) {a:aK} (o:a.Ok) (h:b6 R E (fH a.els)) {n:Nat} (f:a.let n) (g:p<n):
  ∃q O,fq E n p=ac q∧ip R q.1=a.slot n p∧bH R q.1 (a.slot n p) O:=sn o f g fun i k M b j l=>by
 have m:=h.marks.trans (eg ..);have c:i<E.length:=by rw[←aB,m,aB];exact(hy.mp b).1
 refine(xr I h (cS c) b).elim fun d z=>z.elim fun O e=> ?_;rw[j] at d e;exact es (E[i]) O ((l E m).trans (cS c)) d e
theorem I5 {a b:aK} (o:a.Ok) (q:b.Ok) (k:A.map (·.2)=a.els.map (·.2)) (m:B.map (·.2)=b.els.map (·.2)):nb A B=af↔∀n,a.let n→b.let n:=by
 have l:=s0 k;have L:=s0 m;have N:A.length=a.els.length:=by have:=aS gK k;simpa using this
 have e:B.length=b.els.length:=by have:=aS gK m;simpa using this
 rw[nc] at N e;unfold nb;unfold gi at l L;refine ak l (ak L (ak (kb o k) (ak (kb q m) ?_)));have i:=fun r=>gl fun h=>o.ts h r;have j:=fun r=>gl fun h=>q.ts h r;constructor
 ·intro h n p;rw[fu] at h;have g:¬(a.hs.length+a.ts.length<b.hs.length+b.ts.length):=by simpa using h.1
  refine⟨by have:=p.1;exact eY (.c 1 (.a .b .f) .g (.c 1 (.a .j .l) (.a .b .f) (.g 1 (.a .j .l) .g))) rfl p.1 (dC g), ?_⟩;by_cases c:b.rs=[]
  ·right;have f:=h.2;rw[aJ c] at f;by_cases d:a.rs=[]
   ·have f:=aJ d▸f;simp at f;have:=p.2.resolve_left fun h=>h d;rw[i d,d] at N;rw[j c,c] at e;rw[i d] at this;rw[j c];simp at N e this⊢;exact lz (.c 1 (.a .b .f) .g (.c 1 .j (.a .l .o) (.c 1 .g .j (.c 1 .p (.a .b .f) (.g 1 .p (.a .l .o)))))) rfl (a9 (cB N)) (a9 e) f this
   ·rw[aL d] at f;simp at f
  ·exact av c
 ·intro h;rw[fu];have s:a.let (a.hs.length+a.ts.length):=⟨bv _,aI (b5 (.g 1 (.a .b .f) (.a (.a .b .g) .f)) rfl)⟩
  refine⟨by have:=(h _ s).1;simp;exact b7 (.c 1 (.a .b .f) (.a .g .j) (.g 1 (.a .b .f) (.a .g .j))) rfl this, ?_⟩;by_cases c:b.rs=[]
  ·rw[aJ c];by_cases d:a.rs=[]
   ·rw[aJ d];have g:a.let (a.hs.length+a.os.length+a.ts.length):=⟨b5 (.g 1 (.a .b .f) (.a (.a .b .g) .f)) rfl,aI (bv _)⟩
    have:=(h _ g).2.resolve_left fun h=>h c;rw[i d,d] at N;rw[j c,c] at e;rw[i d,j c] at this;simp at N e this⊢;exact j' (.c 1 .b (.a .f .g) (.c 1 (.a .j .l) .o (.c 1 (.a .f .g) (.a .j .l) (.g 1 .b .o)))) rfl (a9 N) (a9 (cB e)) this
   ·exfalso;have g:a.let (a.hs.length+a.ts.length+b.hs.length+b.os.length+b.ts.length+1):=⟨eY (.g 1 (.a .b .f) (.a (.a (.a (.a (.a .b .f) .g) .j) .l) .n1)) rfl,av d⟩
    have:=(h _ g).2.resolve_left fun h=>h c;exact kY 0 (eY (.c 1 (.a (.a (.a (.a (.a .b .f) .g) .j) .l) .n1) (.a (.a .g .j) .l) (.g 1 .n1 .n0)) rfl this)
  ·rw[aL c];simp
theorem Kq (w:b→Nat) (f:b→Bool):∀l:List b,(l.map w).sum=((l.filter f).map w).sum+((l.filter fun x=> !f x).map w).sum:=by
 intro l;induction l with
 |nil=>rfl
 |cons a l i=>
  have:=i;cases h:f a<;>simp[h,this]<;>lia
theorem PX (w:Nat→Nat):∀(A:List Nat) (B:List Nat) (P:List (Nat×Nat)),P.Nodup→(∀p∈P,p.1∈A∧p.2∈B)→(P.map fun p=>w p.1).sum≤(A.map w).sum*B.length:=by
 intro A;induction A with
 |nil=>
  intro B P _ h;induction P using cn with
  |nil=>simp
  |cons p P=>have:=(h p (by simp)).1;cases this
 |cons a A i=>
  refine fun B P n h=>ak (Kq (fun p:Nat×Nat=>w p.1) (fun p=>p.1==a) P) ?_;have f:((P.filter fun p=> !(p.1==a)).map fun p=>w p.1).sum≤(A.map w).sum*B.length:=by
   refine i B _ (n.sublist mX) fun p b=> ?_;obtain⟨f,g⟩:=c_.mp b;refine⟨(eS.mp (h p f).1).resolve_left fun e=> ?_,(h p f).2⟩;rw[e] at g;simp at g
  have g:((P.filter fun p=>p.1==a).map fun p=>w p.1).sum≤w a*B.length:=by
   have e:∀l:List (Nat×Nat),(∀p∈l,p.1=a)→(l.map fun p=>w p.1).sum=w a*l.length:=by
    intro l;induction l with
    |nil=>intro _;simp
    |cons p l i=>intro k;rw[eE,n8,i fun q c=>k q (je _ c),k p (by simp),mY,EH,lR];exact e8 (cD (.g 1 (.a .b .f) (.a .f .b)) rfl) (cD (.g 1 (.a .b .f) (.a .f .b)) rfl)
   have c:∀p∈P.filter fun p=>p.1==a,p.1=a:=fun p b=>by simpa using(c_.mp b).2
   refine ak (e _ c) (fh _ ?_);have d:((P.filter fun p=>p.1==a).map (·.2)).Nodup:=by
    have j:=n.sublist (mX (p:=fun p:Nat×Nat=>p.1==a));generalize P.filter (fun p=>p.1==a)=l at*;induction l with
    |nil=>exact h7
    |cons p l i=>
     rw[gn] at j;refine gn.mpr ⟨fun m=>(ay (cr.mp m) fun q o t=> ?_),i (fun q r=>c q (je _ r)) j.2⟩;have E:=c q (je _ o);have:q=p:=by induction p;induction q;simp_all
     exact j.1 (this▸o)
   have:=d.length_le_of_subset (l₂:=B) fun x s=>by
    refine ay (cr.mp s) fun p b y=> ?_;subst y;exact(h p (c_.mp b).1).2
   simpa using this
  rw[eE,n8,uk];exact b7 (.c 1 .b .f (.c 1 .g .j (.g 1 (.a .g .b) (.a .j .f)))) rfl f g
noncomputable def aK.W (a:aK):Nat:=((fH a.els).map fun p=>p.1.length+1).sum
theorem b6.weight (I:aW R) (h:b6 R E l):((E.map (·.1)).map fun i=>(ip R i).length+1).sum=(l.map fun p=>p.1.length+1).sum:=by
 induction h with
 |nil=>rfl
 |cons a b _ e=>simp only[eE,n8];rw[e,hx I a]
theorem CB (h:fq E n p=ac q):q∈E:=by
 unfold fq at h;split at h
 ·exact eR h
 ·split at h
  ·exact eR h
  ·split at h
   ·exact eR h
   ·exact eR h
def aK.Fit (a b:aK):Prop:=∀n,a.let n→b.let n∧∀p,p<n→cz (a.slot n p) (b.slot n p)=af
theorem q0:∀{m:List Nat},hX (l.map ag) (m.map ag)=aM (l=m):=by
 induction l with
 |nil=>intro m;induction m using cn<;>kernel_rfl
 |cons a l i=>
  intro m;induction m using cn with
  |nil=>kernel_rfl
  |cons b m=>
   show(aj.beq (ag a) (ag b)&&hX (l.map ag) (m.map ag))=_;rw[my,i];by_cases h:a=b<;>by_cases c:l=m<;>simp[h,c]
theorem K6 {m:List Nat}:vW eG (.c (l.map ag)) (.c (m.map ag))=ac (!aM (l=m)):=by
 have h:∀l:List Nat,(aj.plain 8 (.c (l.map ag)))=true:=fun l=>xK (n:=7);show(if(aj.plain 8 (.c (l.map ag))&&aj.plain 8 (.c (m.map ag)))=af then ac (hX (l.map ag) (m.map ag)) else ah).map _=_
 rw[h,h,Ef,aJ rfl,q0];rfl
theorem OE:ce (k++[8]) u=ce k u:=by unfold ce;simp
theorem z5 (h:gh k):u∈cM (k++[8])↔u∈k∨u=8:=by
 rw[fp,OE,dD,bW];constructor
 ·rintro ⟨_,h,_⟩;exact h
 ·rintro (a|rfl)
  ·have:=qm h▸a;exact fg (h.2.2.1 u a) (av a) ((fp.mp (by rw[qm h];exact a)).2.2)
  ·exact fg (eJ [] (.g 1 (.a (.n 8) .n1) (.n 9)) rfl) (aI rfl) (by simp[ce])
theorem A0 (h:gh k) (h':gh k') (c:8∉k) (d:8∉k') (e:fK k mk=fK k' mk):k=k':=by
 unfold fK at e;split at e
 ·refine pj h.2.1 h'.2.1 fun u=> ?_;have:=z5 h (u:=u);rw[e,z5 h'] at this;constructor
  ·intro a;rcases this.mpr (av a) with b|rfl
   ·exact b
   ·exact absurd a c
  ·intro a;rcases this.mp (.inl a) with b|rfl
   ·exact b
   ·exact absurd a d
 ·exact e
theorem Ba (b:i<E.length) (o:Option Nat) (c:en E=o):∃k p,p<k∧E.length≤k∧k≤(if o.isSome then E.length+E.length else E.length)∧(∀F:List (Nat×Nat),F.length=E.length→en F=o→fq F k p=F[i]?):=by
 induction o with
 |none=>exact⟨E.length,i,b,bv _,by simp,fun F _ h=>by unfold fq;rw[h]⟩
 |some I=>
  obtain⟨d,_⟩:=zD c;by_cases e:i<I
  ·exact hK (E.length+E.length) i (cD (.c 1 (.a .b .n1) .f (.g 1 (.a .b .n1) (.a .f .f))) rfl b) (dN (.g 1 .b (.a .b .b)) rfl) (by simp) (fun F _ h=>by unfold fq;rw[h];dsimp only;rw[aJ e])
  ·by_cases f:i=I
   ·subst f;exact hK (E.length+E.length) i (cD (.c 1 (.a .b .n1) .f (.g 1 (.a .b .n1) (.a .f .f))) rfl b) (dN (.g 1 .b (.a .b .b)) rfl) (by simp) (fun F a h=>by unfold fq;rw[h];dsimp only;rw[aL (by exact e7 (dN (.g 1 .b .b) rfl)),aL (by exact jh (eY (.c 1 .b .f (.c 1 (.a .g .n1) .j (.c 1 (.a .j .l) .b (.g 1 (.a (.a .l .g) .n1) (.a .f .f))))) rfl (a9 a) (a9 (fi (b7 (.c 1 (.a .b .n1) .f (.c 1 .f .g (.c 1 .g (.a .j .b) (.g 1 .n1 .j)))) rfl b (a9 (cB a)) (g3.mp (bv (F.length-(i))))))) (a9 (fi (b5 (.c 1 (.a .b .n1) .f (.c 1 .f .g (.g 1 .b .g))) rfl b (a9 (cB a)))))))])
   ·exact hK (E.length+E.length) (E.length+i) (cD (.c 1 (.a .b .n1) .f (.g 1 (.a (.a .f .b) .n1) (.a .f .f))) rfl b) (dN (.g 1 .b (.a .b .b)) rfl) (by simp) (fun F a h=>by unfold fq;rw[h];dsimp only;rw[aL (by exact e7 (b5 (.c 1 (.a .b .n1) .f (.g 1 .b (.a .f .g))) rfl d)),aJ (by lia),show F.length+(E.length+i)-(E.length+E.length)=i by exact e8 (b7 (.c 1 .b .f (.c 1 (.a .g (.a .f .f)) (.a .b (.a .f .j)) (.g 1 .g .j))) rfl (a9 a) (a9 (fi (b5 (.c 1 .b .f (.g 1 (.a .b .b) (.a .f (.a .b .g)))) rfl (a9 (cB a)))))) (b7 (.c 1 .b .f (.c 1 (.a .f (.a .b .g)) (.a .j (.a .b .b)) (.g 1 .g .j))) rfl (a9 (cB a)) (g3.mp (bv (F.length+(E.length+i)-(E.length+E.length)))))])
theorem aK.Ok.kinds {a:aK} (o:a.Ok) {mk:Nat} (h:(k,mk)∈a.els):gh k∧8∉k∧mk<3:=by
 have y:k∈a.hs++a.os++a.rs++a.ts∧mk<3:=by
  unfold aK.els at h;simp only[dD,cr,Ea] at h⊢;rcases h with((⟨x,h,rfl,rfl⟩|⟨x,h,rfl,rfl⟩)|⟨x,h,rfl,rfl⟩)|⟨x,h,rfl,rfl⟩<;>simp[h]
 exact fg ((o.nk k y.1).1) ((o.nk k y.1).2) y.2
theorem E' {R:List aj} (I:aW R) (q:aW r) (x:bL R r) {a b:aK} (o:a.Ok) (T:b.Ok) (s:b6 R A a.els) (u:b6 R B b.els) (v:b6 r d (fH a.els)) (w:b6 r f (fH b.els)) (m:A.map (·.2)=B.map (·.2))
  (h:∀k p,gi A≤k→k≤ec A B→p<k→(jt d f k p).1=(jt d f k p).2):A=B:=by
 have M:d.map (·.2)=A.map (·.2):=by rw[v.marks,s.marks];unfold fH;simp
 have y:f.map (·.2)=B.map (·.2):=by rw[w.marks,u.marks];unfold fH;simp
 have z:A.length=B.length:=by have:=aS gK m;simpa using this
 have Z:d.length=A.length:=by have:=aS gK M;simpa using this
 have C:f.length=B.length:=by have:=aS gK y;simpa using this
 have U:en d=en A:=by rw[p1,M,←p1]
 have V:en f=en A:=by rw[p1,y,←m,←p1]
 refine x4 fun i=> ?_;by_cases j:i<A.length
 ·refine ii (Ba j (en A) rfl) fun k p W X α F=> ?_;have t:gi A≤k:=by unfold gi;have:=hY (fun p:Nat×Nat=>p.2==0) A;exact b5 (.c 1 .b .f (.c 1 .g .b (.g 1 .g .f))) rfl X this
  have β:k≤ec A B:=by unfold ec;exact ak (cB z) α
  have c:=h k p t β W;have D:=cS (Z.symm▸j:i<d.length);have E:=cS (z.trans C.symm▸j:i<f.length);have g:=cS j;have G:=cS (z▸j:i<B.length);unfold jt at c;have c:=(F d Z U)▸c;have c:=(F f (by rw[C,z]) V)▸c;have c:=D▸c;have c:=E▸c;dsimp only[nW] at c;refine bK (s.at g) fun θ ι L γ=>bK (u.at G) fun κ μ Q δ=> ?_;obtain⟨_,ν,ε⟩:=xr q v D L;obtain⟨_,ξ,P⟩:=xr q w E Q;have S:A[i].2=B[i].2:=by
   have:=aS (fun l:List Nat=>l[i]?) m;simp only[dX,g,G,n5,lN] at this;exact this
  rw[←c] at P;have e:=(mL q ε P).1;rw[S] at e;refine dQ (o.kinds (eR L)) fun n N _=>dQ (T.kinds (eR Q)) fun ζ η _=> ?_;have:=A0 n ζ N η e;subst this;rw[g,G];congr 1;exact ur (bH.uniq I γ δ) S
 ·rw[po (by exact cD (.c 1 .b .f (.g 1 .b .f)) rfl (dC j)),po (by exact b5 (.c 1 .b .f (.c 1 .f .g (.g 1 .b .g))) rfl (a9 (cB z)) (dC j))]
theorem b6.lt3 (h:b6 R E l):∀q∈E,q.2<3:=h.rec (fun _ h=>(by cases h)) fun _ m _ i=>fun q f=>(eS.mp f).elim (fun e=>e▸m) (i q)
theorem Ca:(fH l).map (·.2)=l.map (·.2):=eg ..
theorem Al {c:aK} (o:c.Ok) (h:E.map (·.2)=c.els.map (·.2)) (d:c.let k) (e:p<k):(fq E k p).isSome=true:=sn o d e fun i _ _ f _ g=>by
 have j:i<E.length:=by rw[←aB,h,aB];exact(hy.mp f).1
 rw[g E h,cS j];rfl
theorem oA {a:aK} (o:a.Ok) (m:A.map (·.2)=a.els.map (·.2)) (c:gi A≤k) (h:k≤ec A B):a.let k:=by
 rw[s0 m] at c;refine⟨c, ?_⟩;by_cases r:a.rs=[]
 ·unfold ec at h;rw[kb o m,aJ r,l2 m,r] at h;exact aI h
 ·exact av r
section
variable{a b:aK}
theorem JP (I:aW R) (o:a.Ok) (f:b.Ok) (g:b6 R A (fH a.els)) (j:b6 R B (fH b.els)) (l:a.let k) (L:b.let k) (h:p<k)
  {G:Prop} (q:∀Q c i d,jt A B k p=(Q,c)→Q∈A.map (·.1)→c∈B.map (·.1)→bH R Q (a.slot k p) i→bH R c (b.slot k p) d→G):G:=by
 refine cF (CE I o g l h) fun Q i e _ P=>cF (CE I f j L h) fun c d E _ m=> ?_;exact q Q.1 c.1 i d (by unfold jt;refine ak e (ak E ?_);rfl) (q' (CB e)) (q' (CB E)) P m
structure SY (R:List aj) (a b:aK) (A B P:List (Nat×Nat)):Prop where
 kinds:∀p∈P,∃k O k' i,bH R p.1 k O∧bH R p.2 k' i
 c:fI R P≤a.W*B.length
 all:P.all (fj R)=af↔a.Fit b
theorem Lt (o:a.Ok) (e:b.Ok) (M:A.map (·.2)=a.els.map (·.2)) (i:B.map (·.2)=b.els.map (·.2)) (f:∀n,a.let n→b.let n) (l:∀k,k≤ec A B→a.let k→∀p,p<k→cz (a.slot k p) (b.slot k p)=af) (c:a.let n):∀p,p<n→cz (a.slot n p) (b.slot n p)=true:=by
 have g:=l2 M;have L:=l2 i;have j:ec A B=if a.rs=[] then A.length else A.length+B.length:=by unfold ec;refine ak (kb o M) ?_;split<;>rfl
 by_cases t:n≤ec A B
 ·exact l n t c
 rw[j] at t l;have d:=fun r=>t (by
  rw[aJ r,g,r,qb o r];have:=c.2.resolve_left fun h=>h r;rw[qb o r] at this;exact this)
 rw[aL d] at t l;have q:=fun r=>t (by
  have:=(f n c).2.resolve_left fun h=>h r;rw[r] at L;exact ao this (ao (a9 L.symm) (gH _ _)))
 have s:=vr o d;have u:=vr e q;refine zK o e ?_ (fun r=>aR r d) f l n c;rw[g,L,s,u];have m {x y:Nat}:max x y≤x+y:=yq.mpr ⟨bu _ _,gH _ _⟩;exact jg (dd (m (x:=a.fr) (y:=b.fr)) (m (x:=a.ts.length) (y:=b.ts.length))) (b7 (a0:=a.fr) (a1:=b.fr) (a2:=a.ts.length) (a3:=b.ts.length) (.g 1 (.a (.a (.a .b .f) (.a .g .j)) .n1) (.a (.a (.a .b .n1) .g) (.a (.a .f .n1) .j))) rfl)
theorem OA (I:aW R) (o:a.Ok) (z:b.Ok) (m:A.map (·.2)=a.els.map (·.2)) (M:B.map (·.2)=b.els.map (·.2)) (C:b6 R D (fH a.els)) (F:b6 R L (fH b.els)) (t:∀n,a.let n→b.let n) (d:P.Nodup)
  (u:∀q,q∈P↔∃k p,gi A≤k∧k≤ec A B∧p<k∧q=jt D L k p):SY R a b A B P:=by
 have v {G:Prop} {k p:Nat} (c:gi A≤k) (f:k≤ec A B) (g:p<k):=JP (G:=G) I o z C F (oA o m c f) (t k (oA o m c f)) g;refine⟨fun q j=> ?_, ?_, ?_⟩
 ·exact ii ((u q).mp j) fun k p c f g e=>v c f g fun Q y w x E _ _ r s=>ak e (ak E (Bo _ w _ x r s))
 ·have:=PX (fun i=>(ip R i).length+1) (D.map (·.1)) (L.map (·.1)) P d fun q j=>by
   exact ii ((u q).mp j) fun k p c f g e=>v c f g fun Q y w x E U V _ _=>ak e (ak E (⟨U,V⟩))
  rw[C.weight I,aB,l2 (F.marks.trans Ca),←l2 M] at this;exact this
 ·rw[cH];constructor
  ·refine fun h n N=>⟨t n N,Lt o z m M t (fun k S l p T=> ?_) N⟩;have c:gi A≤k:=by rw[s0 m];exact l.1
   refine v c S T fun Q y w x E _ _ r s=> ?_;have:=h _ ((u _).mpr (hK k p c S T rfl));unfold fj at this;rw[E,hx I r,hx I s] at this;exact this
  ·refine fun h q j=>ii ((u q).mp j) fun k p c f g e=>v c f g fun Q y w x E _ _ r s=> ?_;unfold fj;exact ak e (ak E (ak (hx I r) (ak (hx I s) ((h k (oA o m c f)).2 p g))))
end
noncomputable def gx (ro:Nat) (A B:List (Nat×Nat)) (m:bh):bh:=if ro=0∧¬A.map (·.2)=B.map (·.2) then{m with N:=if m.tel then m.N+1 else m.N} else m
theorem zx (E:List (Nat×Nat)) (h:∀q:Nat×Nat,iS (dy bw (aZ n) k) (kV 270 [3] i k (bc q) L Y) [ag q.2] L Y):ca bw (aZ n) (ep 270 [3] i k (bf E) L Y) (.h (.c ((E.map (·.2)).map ag))) L Y:=by
 have c:=fM [3] i k bc E (fun q=>[ag q.2]) L Y fun q _=>h q;rw[←kd] at c;exact ak eg c
noncomputable def BO (A B:List (Nat×Nat)) (ro:Nat):au:=[(27,.l (an 2)),(39,.l (.j (bf A))),(5,.l (.j (bf B))),(72,.l (ag ro))]
theorem KP {m:bh} (z:A.length≤100000) (Z:B.length≤100000) (t:∀q∈A,q.2<3) (T:∀q∈B,q.2<3) (f:nb A B=ai):aE 3 270 [.l (an 2),.l (.j (bf A)),.l (.j (bf B)),.l (ag ro)] (m.st R) (aA ai) [] (m.st R):=yW.of _ _ fun n h=>by
 have c:=CW (Y:=m.st R) z Z n h;rw[f] at c;exact aw 288 [.call (r_ (Y:=m.st R) Z T n (bl h rfl)),.call (r_ (Y:=m.st R) z t n (bl h rfl)),.call c]
theorem Lg {M:bh} {P:List (Nat×Nat)} (z:A.length≤100000) (Z:B.length≤100000) (t:∀q∈A,q.2<3) (T:∀q∈B,q.2<3) (f:nb A B=af) (N:m.N≤100000)
  (h:aE 7 265 [.l (an 0),.l (.j (bf A)),.l (.j (bf B))] ((gx ro A B m).st R) (.c (P.map bc)) [] ((gx ro A B m).st p)) (d:aE 18 268 [.l (an 2),.l (.c (P.map bc)),.l (ag ro)] ((gx ro A B m).st p) (aA b) [] (M.st p)):
  aE 19 270 [.l (an 2),.l (.j (bf A)),.l (.j (bf B)),.l (ag ro)] (m.st R) (aA b) [] (M.st p):=yW.of _ _ fun n e=>by
 have s:=r_ (Y:=m.st R) z t n (bl e rfl);have u:=r_ (Y:=m.st R) Z T n (bl e rfl);have C:=CW (Y:=m.st R) z Z n (bl e rfl);have C:=f▸C;have h:=h n (bl e rfl);have d:=d n e;have I:(bf A).length≤b4:=ao (a9 ed) (aD z rfl);have v:(bf B).length≤b4:=ao (a9 ed) (aD Z rfl);unfold gx at h d;by_cases r:ro=0
 ·have w:(ro !=0)=false:=by refine ak r ?_;rfl
  have x:=zx (n:=n) (i:=0) (k:=56) (L:=BO A B ro) (Y:=m.st R) A fun q=>by exact cX 0 []
  have M:=zx (n:=n) (i:=1) (k:=56) (L:=BO A B ro) (Y:=m.st R) B fun q=>by exact cX 0 []
  have g:=K6 (l:=A.map (·.2)) (m:=B.map (·.2));by_cases j:A.map (·.2)=B.map (·.2)
  ·rw[aL fun c=>c.2 j] at h d;rw[cu j] at g;exact aw 4384 [.call u,.call s,.call C,.E w,.le I,.sub x,.le v,.sub M,.z (o:=.k eG _ _) g,.call h,.call d]
  ·rw[aJ ⟨r,j⟩] at h d;rw[cP j] at g;exact aw 4384 [.call u,.call s,.call C,.E w,.le I,.sub x,.le v,.sub M,.z (o:=.k eG _ _) g,.call (tq (R:=R) (aD N rfl) n (bl e rfl)),.call h,.call d]
 ·rw[aL fun c=>r c.1] at h d;exact aw 4384 [.call u,.call s,.call C,.E (k5.mpr r),.call h,.call d]
structure NP (R d:List aj) (Pr:List (Nat×Nat)) (m M:bh) (a b:aK) (c ro:Nat) (r:Bool) (s:Prop):Prop where
 g:dU d Pr m M c
 tw:d6 M.tw
 fit:r=af↔a.Fit b
 n1:(ro≠0∨m.tel=ai)→M.N=m.N
 n2:ro=0→m.tel=af→r=af→¬s→m.N<M.N
theorem zR (o:eC R Pr m) (N:m.N+1≤100000):dU R Pr m (gx ro A B m) 1∧(gx ro A B m).tw=m.tw∧(gx ro A B m).a=m.a∧((ro≠0∨m.tel=ai)→(gx ro A B m).N=m.N)∧(ro=0→m.tel=af→¬A.map (·.2)=B.map (·.2)→(gx ro A B m).N=m.N+1):=by
 have g:=(dU.f o).le (cA 1);unfold gx;by_cases h:ro=0∧¬A.map (·.2)=B.map (·.2)
 ·refine ak (aJ h) (kG (?_) rfl rfl (fun d=> ?_) (fun _ t _=>aJ t))
  ·have e:(if m.tel=af then m.N+1 else m.N)≤m.N+1∧m.N≤if m.tel=af then m.N+1 else m.N:=by split;exact⟨bv _,fQ _⟩;exact⟨fQ _,bv _⟩
   exact g.withN e.2 e.1 (ao e.1 N)
  ·refine ak (d.resolve_left fun d=>d h.1) ?_;rfl
 ·exact ak (aL h) (kG g rfl rfl (fun _=>rfl) (fun a _ c=>aR ⟨a,c⟩ h))
theorem y_ {m:bh} (I:aW R) (W:eC R Pr m) (w:d6 m.tw) (j:a.Ok) (D:b.Ok) (u:b6 R A a.els) (v:b6 R B b.els) (z:A.length≤50) (Z:B.length≤50) (κ:R.length≤800000)
  (μ:∀p∈Pr,∃l,cg R p.1 l) (ν:m.a+(a.W*B.length)≤20000) (N:m.N+(a.W*B.length)+1≤90000) (ξ:m.dp<59) (ο:m.tr≠[])
  {G:Prop} (q:∀F c r,aE 19 270 [.l (an 2),.l (.j (bf A)),.l (.j (bf B)),.l (ag ro)] (m.st R) (aA r) [] (F.st c)→aW c→bL R c→c.length≤R.length+A.length+B.length→NP R c Pr m F a b (a.W*B.length+1) ro r (A=B)→G):G:=by
 have α:=ao (ao (dc (bu m.N _) 1) N) (show 90000≤100000 by decide);have M:=u.marks;have U:=v.marks;have β:A.length≤100000:=aD z rfl;have γ:B.length≤100000:=aD Z rfl;have δ:=I5 j D M U;induction f:nb A B with
 |false=>exact q m R ai ((KP β γ u.lt3 v.lt3 f).up (by decide)) I .f (ao (bu _ _) (bu _ _)) ⟨(dU.f W).le (cA _),w,⟨(fun h=>(by injection h)),fun h=>f.symm.trans (δ.mpr fun n π=>(h n π).1)⟩,fun _=>rfl,fun _ _ h _=>(by injection h)⟩
 |true=>
  have ε:=δ.mp f;refine jc (zR (ro:=ro) (A:=A) (B:=B) W α) fun g T L ρ σ=>N3 (J:=(gx ro A B m).rest) I u v z Z (aD κ rfl) (fun a₄ a₅ E τ k p y C S=>⟨Al j (E.trans M) (oA j M y C) S,Al D (τ.trans U) (ε k (oA j M y C)) S⟩) fun a₆ a₇ P c d i x υ ζ η φ θ=> ?_;have V:=OA i j D M U ζ η ε φ θ;have t:=V.c
  refine xE (ro:=ro) i (g.ok.mono x) (T▸w) V.kinds (fun p χ=>(μ p χ).elim fun l ψ=>⟨l,ψ.mono x⟩) (L▸ao (ci t _) ν)
   (by have:=g.j;exact b7 (.c 1 (.a (.a .b .f) .n1) (.n 90000) (.c 1 .g .f (.c 1 .j (.a .b .n1) (.g 1 (.a .j .g) (.n 90000))))) rfl N t this) (g.dp▸ξ) (fun e=>g.tr.elim fun X ω=>ο (pk.mp (ω▸e)).1) fun F a₀ o=> ?_
  refine q F c (P.all (fj c)) (Lg β γ u.lt3 v.lt3 f (kg α) d a₀) i x υ ⟨(g.trans o.g).le (by rw[f_];exact b3 t),o.tw,V.all,fun h=> ?_,fun y C S a₁=> ?_⟩
  ·exact(o.tl.no (h.imp (fun h=>k5.mpr h) fun h=>av (g.tel.trans h))).trans (ρ h)
  ·by_cases ι:A.map (·.2)=B.map (·.2)
   ·exact jg g.N (o.tl.yes (by rw[y];rfl) (g.tel.trans C) S fun s=>a₁ (E' I i x j D u v ζ η ι fun k p Q a₂ a₃=>s _ ((θ _).mpr ⟨k,p,Q,a₂,a₃,rfl⟩)))
   ·exact ft (by rw[σ y C ι];exact lO _) o.g.N
theorem IY {a:aK} (h:p∈a.els):p.2<3:=by
 unfold aK.els at h;simp only[dD,cr] at h;rcases h with((⟨x,_,rfl⟩|⟨x,_,rfl⟩)|⟨x,_,rfl⟩)|⟨x,_,rfl⟩<;>simp
theorem oG.ks (h:oG R s l) (m:∀p∈l,p.2<3):∃E,s=bf E∧b6 R E l:=by
 induction h with
 |nil=>exact⟨[],rfl,g9⟩
 | @cons e k O M s l a _ i=>
  refine ay (i fun p a=>m p (je _ a)) fun E y b=> ?_;subst y;exact bd ((e,M)::E) rfl (gO a (m (k,M) (by simp)) b)
theorem Og {l:List (List Nat)} {i:Nat}:(((l.map (·,j)).filter fun p=>p.2==i).map (·.1))=if j=i then l else[]:=by
 induction l with
 |nil=>split<;>rfl
 |cons a l I=>
  rw[eE,rh];by_cases h:j=i
  ·rw[aJ h] at I⊢;rw[aJ (by simp[h]),eE,I]
  ·rw[aL h] at I⊢;rw[aL (by simp[h]),I]
theorem C9 {a:aK}:((a.els.filter fun p=>p.2==i).map (·.1))=(if i=0 then a.hs else[])++(if i=1 then a.os else[])++(if i=2 then a.rs else[])++(if i=0 then a.ts else[]):=by
 unfold aK.els;simp only[pv,cm,Og];simp only[eq_comm]
theorem N6 {a:aK} (g:a.Ok) (i:b.Ok) (h:a.els=b.els) (r:a.c=b.c):a=b:=by
 have c:=aS (fun l:List (List Nat×Nat)=>(l.filter fun p=>p.2==0).map (·.1)) h;have f:=aS (fun l:List (List Nat×Nat)=>(l.filter fun p=>p.2==1).map (·.1)) h;have d:=aS (fun l:List (List Nat×Nat)=>(l.filter fun p=>p.2==2).map (·.1)) h;rw[C9,C9] at c f d;simp at c f d;have k:a.hs.length=b.hs.length:=by
  have L:=aS gK c;simp at L;by_cases e:a.rs=[]
  ·have m:=gl fun q=>g.ts q e;rw[m,(gl fun q=>i.ts q (d▸e))] at L;simpa using L
  ·have j:=kb g (E:=a.els.map fun p=>(0,p.2)) (by simp);have o:=kb i (E:=a.els.map fun p=>(0,p.2)) (by rw[←h];simp);rw[aL e] at j;rw[aL (d▸e),j] at o;simp only[lN] at o;exact Nat.add_right_cancel (uv o (aS (fun z=>b.hs.length+z.length) f.symm))
 obtain⟨n,s⟩:=List.append_inj c k;induction a;induction b
 simp_all
theorem cg.m {R:List aj} (h:cg R t a):(∃e k O,R[t]? =ac (.j [ae 11,ag e,ag a.c])∧bH R e k O∧a=⟨[],[],[k],[],a.c⟩)∨(∃E,R[t]? =ac (.j [ae 12,.j (bf E),ag a.c])∧b6 R E a.els∧0<a.fr):=by
 rcases h.2 with⟨e,k,O,b,c,f,j,l,n⟩|⟨s,b,c,f⟩
 ·exact .inl (mT e k O b c (by induction a;simp_all))
 ·obtain⟨E,rfl,g⟩:=c.ks fun p i=>IY i;exact aI (g2 E b g f)
theorem Kx (h:bf E=bf F):E=F:=(DS fun a b e=>by
 have c:=aj.j.inj e;exact ur (dh (aj.int.inj (rn c).1)) (dh (aj.int.inj (rn (rn c).2).1))).mp h
theorem b6.inj (I:aW R) (h:b6 R E l) (h':b6 R E L):l=L:=by
 induction h generalizing L with
 |nil=>cases h';rfl
 |cons a _ _ i=>
  cases h' with
  |cons b _ h=>rw[(mL I a b).1,i h]
theorem cg.uniq (I:aW R) (h:cg R t a) (g:cg R t b):a=b:=by
 refine bK h.head fun _ _ Q _=>bK g.head fun _ _ q _=> ?_;have q:=Q▸q;have o:a.c=b.c:=by
  simp only[lN,aj.j.injEq,ri,aj.int.injEq,and_true] at q;exact dh q.2.2
 rcases h.m with⟨e,k,O,c,p,j⟩|⟨E,c,l,f⟩<;>rcases g.m with⟨u,v,i,r,P,n⟩|⟨w,r,s,F⟩
 ·have r:=c▸r;simp only[Option.some.injEq,aj.j.injEq,List.cons.injEq,aj.int.injEq,and_true,true_and] at r;have:=Int.ofNat.inj r.1;subst this;rw[j,n,(mL I p P).1,o]
 ·rw[c] at r;simp at r
 ·rw[c] at r;simp at r
 ·rw[c] at r;simp only[Option.some.injEq,aj.j.injEq,List.cons.injEq,true_and] at r;have:=Kx r.1;subst this;exact N6 h.1 g.1 (l.inj I s) o
theorem zv {a:aK} (o:a.Ok):(∃n p,a.let n∧p<n∧a.slot n p=x)↔∃q∈a.els,x=fK q.1 q.2:=by
 constructor
 ·exact fun z=>cF z fun n p u h e=>sn o u h fun i k M c d _=>bd _ (eR c) ((d.trans e).symm)
 ·intro z;refine ay z fun q v e=> ?_;refine(q_ v).elim fun i Z=>Z.elim fun f r=> ?_;have m:(a.els.zipIdx.map fun p=>(p.2,p.1.2)).map (·.2)=a.els.map (·.2):=by rw[eg];exact(eg (g:=(·.2)) ..).symm.trans (aS _ (xW 0 a.els))
  have s:(a.els.zipIdx.map fun p=>(p.2,p.1.2)).length=a.els.length:=by rw[aB,pu]
  have A {j:Nat}:(a.els.zipIdx.map fun p=>(p.2,p.1.2))[j]? =a.els[j]?.map fun p=>(j,p.2):=by
   rw[dX,Rs,Option.map_map,jI];rfl
  generalize(a.els.zipIdx.map fun p=>(p.2,p.1.2))=E at m s A;refine ii (Ba (s▸f:i<E.length) _ rfl) fun k p h c d w=> ?_;have l:=oA o m (ao (hY ..) c) d;refine sn o l h fun j D M b y B=>es k p l h (?_);have t:=(w _ rfl rfl).symm.trans (B _ m);rw[A,A,b,cS f,r] at t;have C:i=j:=aS yA (bD t);subst C;rw[cS f,r] at b;injection b with b;subst b;exact y.symm.trans e.symm
theorem yZ {a:aK} (o:a.Ok):a.Fit ⟨[],[],[k],[],r⟩↔∀q∈a.els,cz (fK q.1 q.2) k=true:=by
 have s:∀{n p:Nat},p<n→(⟨[],[],[k],[],r⟩:aK).slot n p=k:=fun{n p} h=>by
  unfold aK.slot;rw[aL (by simp),aL (by simp),aL (by simpa using h)];rfl
 constructor
 ·refine fun h q b=>cF ((zv o).mpr (bd q b rfl)) fun n p f c g=> ?_;have:=(h n f).2 p c;rw[g,s c] at this;exact this
 ·refine fun h n i=>⟨⟨by simp,av (by simp)⟩,fun p d=>(ay ((zv o).mp (es n p i d rfl)) fun q b e=> ?_)⟩;rw[s d,e];exact h q b
theorem AK (I:aW R) (h:R.length≤1000000) {G:Prop} (q:∀t f,aE 2 160 [.l (an 0),.l (ag e),.l (ag r)] (aF R::J) (ag t) [] (aF f::J)→aW f→bL R f→f.length≤R.length+1→f[t]? =ac (.j [ae 11,ag e,ag r])→G):G:=by
 refine p8 (J:=J) (row:=.j [ae 11,ag e,ag r]) I ⟨rfl,rfl⟩ h fun t f g a b c d=>q t f (yW.of _ _ fun n i=> ?_) a b c d;exact aw 0 [.call (g n i)]
noncomputable def qO (A:List (Nat×Nat)) (e ro t:Nat) (E:List (Nat×Nat)):au:=[(27,.l (an 2)),(8,.l (.j (bf A))),(19,.l (ag e)),(72,.l (ag ro)),(1,.l (an 0)),(73,.l (ag t)),(71,bE (.c ((E.map fun p=>(p.1,e)).map bc)))]
theorem MZ (I:aW R) (h:b6 R A l) (o:R.length+A.length≤1000000)
  {G:Prop} (q:∀E r,aW r→bL R r→r.length≤R.length+A.length→b6 r E (fH l)→(∀n,6≤n→ca bw (aZ n) (dR 271 [4] ah (bf A) (qO A e ro t []) (aF R::J)) a' (qO A e ro t E) (aF r::J))→G):G:=
 kR [4] bc A (fun x:List (Nat×Nat)×List aj=>qO A e ro t x.1) (fun x=>aF x.2::J) (oY R A l) ([],R) (.f I h) rfl
  (fun D j U x v f V q=>f.step v o fun W O i P m s N=>tP (J:=J) i P m s fun T r y B C X F L=>by
   refine q _ (N T r y C X F L) rfl fun n M=> ?_;have Q:=f _ fun Z α S i β s k γ=>by
    have z:=aS gK (k.marks.trans Ca);rw[aB,aB] at z;have u:=aS gK S;rw[bi] at u;exact z▸ao (bu _ _) (u▸h.len▸ao (gH _ _) o)
   have g:fL 3 (.c ((x.1.map fun p=>(p.1,e)).map bc)) [.j [ag T,ag e]]=ac (a4,.c (((x.1++[(T,j.2)]).map fun p=>(p.1,e)).map bc)):=by
    rw[cm,cm];exact aJ (by rw[aB,aB];exact Q)
   exact bq 1 [.x (c5.mpr (hZ m)),.call (B n M),.u g])
  fun x f w=>f.fin fun a b c d=>q x.1 x.2 a b c d w
theorem b6.all_sub (I:aW R) (b:bH R e k O) (h:b6 R E l):(E.map fun p=>(p.1,e)).all (fj R)=l.all fun q=>cz q.1 k:=by
 induction h with
 |nil=>rfl
 |cons a _ _ i=>rw[eE,m0,i,m0];unfold fj;rw[hx I a,hx I b]
structure Gp (R:List aj) (Pr:List (Nat×Nat)) (m:bh) (w:Nat):Prop where
 I:aW R
 ok:eC R Pr m
 g:d6 m.tw
 n:R.length≤800000
 hPr:∀p∈Pr,∃l,cg R p.1 l
 a:m.a+w≤20000
 b:m.N+w+1≤90000
 d:m.dp<59
 hne:m.tr≠[]
structure Ay (m:bh) (R:List aj) (Pr:List (Nat×Nat)) (b:aK) (P:Prop) (c z:Nat) (M:bh) (a:List aj) (r:Bool):Prop where
 I:aW a
 x:bL R a
 z:a.length≤R.length+z
 g:dU a Pr m M c
 w:d6 M.tw
 iff:r=af↔P
 n1:(b.c≠0∨m.tel=ai)→M.N=m.N
 n2:b.c=0→m.tel=af→r=af→m.N<M.N
theorem LQ {M:bh} (N:m.N≤100000)
  (h:aE 2 160 [.l (an 0),.l (ag e),.l (ag 1)] ((gx ro [(0,0)] [] m).st R) (ag t) [] ((gx ro [(0,0)] [] m).st i))
  (a:∀n,6≤n→ca bw (aZ n) (dR 271 [4] ah (bf A) (qO A e ro t []) ((gx ro [(0,0)] [] m).st i)) a' (qO A e ro t E) ((gx ro [(0,0)] [] m).st g))
  (d:aE 18 268 [.l (an 2),.l (.c ((E.map fun p=>(p.1,e)).map bc)),.l (ag ro)] ((gx ro [(0,0)] [] m).st g) (aA b) [] (M.st g)):
  aE 19 271 [.l (an 2),.l (.j (bf A)),.l (ag e),.l (ag ro)] (m.st R) (aA b) [] (M.st g):=yW.of _ _ fun n f=>by
 have h:=h n (bl f rfl);have a:=a n (bl f rfl);have d:=d n f;unfold gx at h a d;by_cases r:ro=0
 ·have c:ro=0∧¬[(0,0)].map (·.2)=([]:List (Nat×Nat)).map (·.2):=⟨r,fun e=>(by injection e)⟩;rw[aJ c] at h a d;have j:(ro !=0)=false:=by refine ak r ?_;rfl
  exact aw 0 [.E j,.call (tq (R:=R) (aD N rfl) n (bl f rfl)),.call h,.sub a,.call d]
 ·rw[aL fun c=>r c.1] at h a d;exact aw 0 [.E (k5.mpr r),.call h,.sub a,.call d]
theorem Ql {a b:aK} (p:Gp R Pr m a.W) (ε:a.Ok) (C:b6 R A a.els) {k:List Nat} (v:bH R e k O) (Z:A.length≤50)
  {G:Prop} (q:∀M c r,aE 19 271 [.l (an 2),.l (.j (bf A)),.l (ag e),.l (ag b.c)] (m.st R) (aA r) [] (M.st c)→Ay m R Pr b (∀q∈a.els,cz (fK q.1 q.2) k=af) (a.W+1) (A.length+1) M c r→G):G:=by
 have w:=ao (ao (dc (bu m.N _) 1) p.b) (show 90000≤100000 by decide);refine jc (zR (ro:=b.c) (A:=[(0,0)]) (B:=[]) p.ok w) fun g T L n N=>AK (J:=(gx b.c [(0,0)] [] m).rest) (e:=e) (r:=1) p.I (aD p.n rfl) fun t ζ d D y z _=>MZ (J:=(gx b.c [(0,0)] [] m).rest) (e:=e) (ro:=b.c) (t:=t) D (C.mono y) (ao (dd (ao z (dc p.n 1)) Z) (show 800000+1+50≤1000000 by decide)) fun E c I F P f j=> ?_;have x:=y.trans F;have s:fI c (E.map fun p=>(p.1,e))=a.W:=by
  have:=f.weight I;unfold aK.W fI;rw[←this,eg,eg];rfl
 have Q:(E.map fun p=>(p.1,e)).all (fj c)=af↔∀q∈a.els,cz (fK q.1 q.2) k=true:=by
  rw[f.all_sub I (v.mono x)];unfold fH;rw[pD,cH];exact .rfl
 refine xE (ro:=b.c) I (g.ok.mono x) (T▸p.g) (fun p S=> ?_) (fun q u=>(p.hPr q u).elim fun l U=>⟨l,U.mono x⟩) (by rw[s,L];exact p.a)
  (by rw[s];exact ao (dc g.j _) (ao (a9 (tY ..)) p.b)) (g.dp▸p.d) (fun e=>g.tr.elim fun X V=>p.hne (pk.mp (V▸e)).1) fun M W o=> ?_
 ·exact ay (cr.mp S) fun q u e=>(q_ u).elim fun i z=>z.elim fun α β=>bK (f.at (cS α)) fun γ δ _ h=>e▸(Bo γ δ k O (β▸h) (v.mono x))
 ·refine q M c _ (LQ (kg w) d j W) ⟨I,x,ao P (ao (dc z _) (a9 (by rw[ev,f_ 1]))),(g.trans o.g).le (by rw[s,f_];exact bv _),o.tw,Q,fun h=> ?_,fun d j η=> ?_⟩
  ·exact(o.tl.no (h.imp (fun h=>k5.mpr h) fun h=>av (g.tel.trans h))).trans (n h)
  ·exact ft (by rw[N d j (fun e=>(by injection e))];exact lO _) o.g.N
theorem BG (I:aW R) {t:Nat} (h:s≠t) (c:R[s]? =ac r) (d:R[t]? =ac r):False:=h (oM I.nd c d)
section
variable{m m2:bh} {a b:aK}
theorem rJ (h:i≤j):(i !=0)=ai∨(i !=0)=af∧(j !=0)=true:=by
 induction c:(i !=0) with
 |false=>exact av rfl
 |true=>exact aI ⟨rfl,k5.mpr fun e=>k5.mp c (rv.mp (e▸h))⟩
theorem vp (h:a.c≤b.c):db a b↔a.Fit b:=⟨fun h=>h.2,fun f=>⟨h,f⟩⟩
theorem zW (o:a.Ok) (h:a.c≤b.c) (c:b.c=0):a.c=b.c:=by rw[c] at h⊢;exact rv.mp h
theorem Fn (o:a.c≤b.c) (r1:R[s]? =ac (.j [ae 11,ag e,ag a.c])) (f:R[t]? =ac (.j [ae 11,ag E,ag b.c]))
  (h:aE 18 268 [.l (an 2),.l (.c [bc (e,E)]),.l (ag b.c)] (m.st R) (aA r) [] (m2.st g)):aE 19 272 [.l (an 2),.l (ag s),.l (ag t)] (m.st R) (aA r) [] (m2.st g):=yW.of _ _ fun n i=>by
 have h:=h n i;rcases rJ o with c|⟨c,d⟩
 ·exact aw 33024 [.row r1,.row f,.E c,.call h]
 ·exact aw 528640 [.row r1,.row f,.E c,.E d,.call h]
theorem HG (o:a.c≤b.c) (r1:R[s]? =ac (.j [ae 11,ag e,ag a.c])) (f:R[t]? =ac (.j [ae 12,.j (bf B),ag b.c]))
  (h:aE 19 270 [.l (an 2),.l (.j (bf [(e,2)])),.l (.j (bf B)),.l (ag b.c)] (m.st R) (aA r) [] (m2.st g)):aE 20 272 [.l (an 2),.l (ag s),.l (ag t)] (m.st R) (aA r) [] (m2.st g):=yW.of _ _ fun n i=>by
 have h:=h n i;rcases rJ o with c|⟨c,d⟩
 ·exact aw 49408 [.row r1,.row f,.E c,.call h]
 ·exact aw 790784 [.row r1,.row f,.E c,.E d,.call h]
theorem OW (o:a.c≤b.c) (r1:R[s]? =ac (.j [ae 12,.j (bf A),ag a.c])) (f:R[t]? =ac (.j [ae 11,ag e,ag b.c]))
  (h:aE 19 271 [.l (an 2),.l (.j (bf A)),.l (ag e),.l (ag b.c)] (m.st R) (aA r) [] (m2.st g)):aE 20 272 [.l (an 2),.l (ag s),.l (ag t)] (m.st R) (aA r) [] (m2.st g):=yW.of _ _ fun n i=>by
 have h:=h n i;rcases rJ o with c|⟨c,d⟩
 ·exact aw 33024 [.row r1,.row f,.E c,.call h]
 ·exact aw 528640 [.row r1,.row f,.E c,.E d,.call h]
theorem M3 (o:a.c≤b.c) (r1:R[s]? =ac (.j [ae 12,.j (bf A),ag a.c])) (e:R[t]? =ac (.j [ae 12,.j (bf B),ag b.c]))
  (h:aE 19 270 [.l (an 2),.l (.j (bf A)),.l (.j (bf B)),.l (ag b.c)] (m.st R) (aA r) [] (m2.st f)):aE 20 272 [.l (an 2),.l (ag s),.l (ag t)] (m.st R) (aA r) [] (m2.st f):=yW.of _ _ fun n g=>by
 have h:=h n g;rcases rJ o with c|⟨c,d⟩
 ·exact aw 41216 [.row r1,.row e,.E c,.call h]
 ·exact aw 659712 [.row r1,.row e,.E c,.E d,.call h]
theorem zL {B:List (Nat×Nat)} (j:b.Ok) (e:a.c≤b.c) (I:aW c) (x:bL R c) (z:c.length≤R.length+A.length+B.length) (f:A.length=a.els.length) (Z:B.length=b.els.length) (o:NP R c Pr m m2 a b (a.W*B.length+1) b.c r (A=B)) (h:b.c=0→¬A=B):Ay m R Pr b (db a b) (a.W*b.els.length+1) (a.els.length+b.els.length+1) m2 c r:=by
 rw[f,Z] at z;exact⟨I,x,ao z (ao (a9 (ev ..)) (fQ _)),Z▸o.g,o.tw,o.fit.trans (vp e).symm,o.n1,fun d g i=>o.n2 d g i (h d)⟩
theorem OU (p:Gp R Pr m (a.W*b.els.length)) (V:cg R s a) (α:cg R t b) (ζ:a.els.length≤50) (η:b.els.length≤50) (θ:s≠t)
  {G:Prop} (q:∀m2 u r,aE 20 272 [.l (an 2),.l (ag s),.l (ag t)] (m.st R) (aA r) [] (m2.st u)→Ay m R Pr b (db a b) (a.W*b.els.length+1) (a.els.length+b.els.length+1) m2 u r→G):G:=by
 have v:=V.1;have D:=α.1;by_cases d:a.c≤b.c
 ·rcases V.m with⟨e,k,O,g,P,β⟩|⟨A,g,Q,F⟩<;>rcases α.m with⟨E,ι,i,j,γ,S⟩|⟨B,j,L,f⟩
  ·have w:fI R [(e,E)]=a.W*b.els.length:=by rw[β,S];show(ip R e).length+1=(k.length+1)*1;rw[hx p.I P,Nat.mul_one]
   have l:[(e,E)].all (fj R)=true↔db a b:=by
    rw[vp d,S,yZ v,β];show(fj R (e,E)&&true)=true↔∀q∈[(k,2)],cz (fK q.1 q.2) ι=true;unfold fj;rw[Bool.and_true,hx p.I P,hx p.I γ,List.forall_mem_singleton];exact .rfl
   refine xE (ro:=b.c) p.I p.ok p.g (fun q h=>List.mem_singleton.mp h▸⟨k,O,ι,i,P,γ⟩) p.hPr (w▸p.a) (w▸Nat.le_of_succ_le p.b) p.d p.hne fun m2 μ o=> ?_
   exact q m2 R _ ((Fn d g j μ).up (aY rfl)) ⟨p.I,.f,bu _ _,(w▸o.g).le (fQ _),o.tw,l,fun h=>o.tl.no (h.imp (fun h=>k5.mpr h) av),
    fun T δ ν=>o.tl.yes (by rw[T];rfl) δ ν fun N=>BG p.I θ (by rw[g,zW v d T,show e=E from N (e,E) (cU _)]) j⟩
  ·have κ:b6 R [(e,2)] a.els:=by rw[β];exact gO P (aY rfl) g9
   have z:=L.len;refine y_ p.I p.ok p.g v D κ L (show 1≤50 by decide) (z▸η) p.n p.hPr (z▸p.a) (z▸p.b) p.d p.hne fun m2 u r C I X ε o=>q m2 u r (HG d g j C) (zL D d I X ε κ.len z o fun _ N=> ?_);have U:=kb D (N▸L.marks:[(e,2)].map (·.2)=_);rw[show en [(e,2)]=ac 0 from rfl] at U;split at U
   ·exact(by injection U)
   ·exact hZ f (bD U)
  ·have W:a.W*b.els.length=a.W:=by rw[S];exact lR _
   have Z:=Q.len;refine Ql ⟨p.I,p.ok,p.g,p.n,p.hPr,W▸p.a,W▸p.b,p.d,p.hne⟩ v Q γ (Z▸ζ) fun m2 u r c o=>q m2 u r (OW d g j c) ⟨o.I,o.x,ao o.z (ci (Z▸b3 (bu _ _)) _),W.symm▸o.g,o.w,o.iff.trans ?_,o.n1,o.n2⟩;rw[vp d,S];exact(yZ v).symm
  ·have Z:=Q.len;have z:=L.len;exact y_ p.I p.ok p.g v D Q L (Z▸ζ) (z▸η) p.n p.hPr (z▸p.a) (z▸p.b) p.d p.hne fun m2 u r C I X ε o=>q m2 u r (M3 d g j C) (zL D d I X ε Z z o fun h N=>BG p.I θ (by rw[g,zW v d h,N]) j)
 ·refine bK V.head fun x y g _=>bK α.head fun ξ ο j _=> ?_;have T:(a.c !=0)=true:=k5.mpr fun e=>d (e▸cA _);have δ:(b.c !=0)=false:=by rw[rv.mp (iW (ft (f' d) v.c))];rfl
  refine q m R ai (yW.of _ _ fun n π=> ?_) ⟨p.I,.f,bu _ _,(dU.f p.ok).le (cA _),p.g,⟨(fun h=>(by injection h)),fun h=>aR h.1 d⟩,fun _=>rfl,fun _ _ h=>(by injection h)⟩;exact aw 4352 [.row g,.row j,.E T,.E δ]
end
structure xL (m:bh) (R:List aj) (Pr:List (Nat×Nat)) (P q f:Prop) (c z:Nat) (m2:bh) (a:List aj) (r:Bool):Prop where
 I:aW a
 x:bL R a
 z:a.length≤R.length+z
 g:dU a Pr m m2 c
 w:d6 m2.tw
 iff:r=af↔P
 n0:r=ai→m2.N=m.N∧m2.tr=m.tr
 n1:(q∨m.tel=ai)→m2.N=m.N
 n2:¬q→m.tel=af→f→r=af→m.N<m2.N
section
variable{m m2:bh}
theorem Gm (h:aE k 272 [.l (an 2),.l (ag s),.l (ag t)] (m.st R) d [] (m2.st r)):aE (k+1) 7920 [.l (an 4),.l (an 2),.l (ag s),.l (ag t)] (m.st R) d [] (m2.st r):=yW.of _ _ fun n a=>by
 exact aw 0 [.call (h n a)]
theorem Gy (h:a=11∨a=12) (c:b=11∨b=12):aE 1 216 [.l (ae a),.l (ae b)] Y (ae 4) [] Y:=yW.of _ _ fun n d=>by
 rcases h with rfl|rfl<;>rcases c with rfl|rfl<;>exact aw 0 []
theorem NQ (h:aE k 7920 [.l (an 4),.l (an 2),.l (ag s),.l (ag t)] (m.st R) (aA r) [] (m2.st a)):aE (k+1) 199 [.l (an 2),.l (ae 4),.l (ag s),.l (ag t)] (m.st R) (aA r) [] (m2.st a):=yW.of _ _ fun n b=>by
 exact aw 3 [.call (h n b)]
theorem J5 (h:aE k 7280 [.l (an 5),.l (an 2),.l (ag s),.l (ag t)] (m.st R) (aA r) [] (m2.st a)):aE (k+1) 199 [.l (an 2),.l (ae 12),.l (ag s),.l (ag t)] (m.st R) (aA r) [] (m2.st a):=yW.of _ _ fun n b=>by
 exact aw 3 [.call (h n b)]
theorem MD (i:R[s]? =ac (.j (ae a::x))) (j:R[t]? =ac (.j (ae b::y))) (d:a=11∨a=12) (f:b=11∨b=12)
  (h:aE (k+1) 272 [.l (an 2),.l (ag s),.l (ag t)] (m.st R) (aA r) [] (m2.st l)):aE (k+4) 215 [.l (an 2),.l (ag s),.l (ag t)] (m.st R) (aA r) [] (m2.st l):=yW.of _ _ fun n g=>by
 have c:¬a=6:=fun e=>by subst e;exact aR d (by decide)
 have C:¬b=6:=fun e=>by subst e;exact aR f (by decide)
 exact aw 0 [.row i,.get (eI (a:=ae a) (x:=x)),.row j,.get (eI (a:=ae b) (x:=y)),.C c,.C C,.call (Gy (Y:=m.st R) d f n (ao (gH 1 (k+2)) g)),.call (NQ (Gm h) n g)]
end
theorem cg.hd (h:cg R t l):∃a x,R[t]? =ac (.j (ae a::x))∧(a=11∨a=12)∧ib (.j (ae a::x)):=by
 rcases h.m with⟨e,k,O,h,_⟩|⟨E,h,_⟩
 ·exact⟨11,_,h,.inl rfl,.c _ _⟩
 ·exact⟨12,_,h,.inr rfl,.j _ _⟩
noncomputable def kM:Option aj→Int
 |some (.j (.int a::_))=>a
 |_=>0
theorem HS:∀j,j<16→¬kM dT[j]? =11∧¬kM dT[j]? =12:=by
 have:(cv 16).all (fun j=> !aM (kM dT[j]? =11)&& !aM (kM dT[j]? =12))=true:=by kernel_rfl
 intro j h;have:=cH.mp this j (hB.mpr h);simpa using this
theorem cg.ge (I:aW R) (h:cg R t l):16≤t:=dC fun j=>by
 refine h.hd.elim fun a z=>z.elim fun x Z=>Z.elim fun b c=>c.elim fun e _=> ?_;rw[I.at j] at b;have:=HS t j;rw[b] at this;exact e.elim this.1 this.2
theorem Qx {t:Nat} (h:16≤t) {j:Nat} (a:j<16):¬(t:Int)=(j:Int):=fun e=>aR h (jh (dh e▸a))
theorem cg.far {R:List aj} (I:aW R) {t:Nat} (h:cg R t l):gc t∧¬(t:Int)=4∧¬(t:Int)=5:=
 have f {j:Nat} (a:j<16):¬(t:Int)=(j:Int):=Qx (h.ge I) a
 ⟨⟨f (aY rfl),f (aY rfl),f (aY rfl),f (aY rfl),f (aY rfl),f (aY rfl)⟩,f (aY rfl),f (aY rfl)⟩
theorem db.f:db a a:=⟨bv _,fun n h=>⟨h,fun p _=>by unfold cz;rw[cH];exact fun u b=>by rw[dK];exact av (ee.mpr b)⟩⟩
theorem zi (I:aW R) (d:cg R s a) (f:cg R t b) (h:jV R (s,t) r):r=af↔db a b:=by
 rcases h with⟨k,O,_,_,p,_⟩|⟨l,L,e,E,g⟩|⟨_,O,i,L,e,_⟩
 ·exact(p.notLI d).elim
 ·rw[g,d.uniq I e,f.uniq I E]
 ·have⟨c,x,j,n,_⟩:=f.hd;exact absurd n (by rw[←show(6:Int)=c from(congrArg kM (e.symm.trans j))];decide)
theorem vQ (I:aW R) (o:eC R Pr m) (w:d6 m.tw) (i:cg R s a) (d:cg R t b) (A:a.els.length≤50) (B:b.els.length≤50) (δ:R.length≤800000)
  (ε:∀p∈Pr,∃l,cg R p.1 l) (ζ:(s,t)∉Pr) (P:m.a+a.W*b.els.length+1≤20000) (N:m.N+a.W*b.els.length+1≤90000) (S:m.dp<58) (η:m.tr≠[]∨Pr=[])
  {G:Prop} (q:∀m2 v r,aE 26 4921 [.l (an 2),.l (ag s),.l (ag t)] (m.st R) (aA r) [] (m2.st v)→xL m R Pr (db a b) (b.c≠0∨s=t) ((s,t)∉m.tr∧((s,t),af)∉m.K) (a.W*b.els.length+2) (a.els.length+b.els.length+1) m2 v r→G):G:=by
 have g:=(dU.f o).le (cA (a.W*b.els.length+2));by_cases y:s=t
 ·subst y;cases i.uniq I d;exact q m R af ((ni wY).up (aY rfl)) ⟨I,.f,bu _ _,g,w,⟨fun _=>.f,fun _=>rfl⟩,(fun h=>(by cases h)),fun _=>rfl,fun h=>aR (aI rfl) h⟩
 refine i.hd.elim fun C z=>z.elim fun x Z=>Z.elim fun E n=>n.elim fun U θ=>d.hd.elim fun σ z=>z.elim fun X Z=>Z.elim fun L n=>n.elim fun V ι=> ?_;have f:=i.far I
 have F {k:Nat} (j:k≤24) {D:bh} {W:List aj} {r:Bool} (h:aE k 205 [.l (an 2),.l (ag s),.l (ag t)] (m.st R) (aA r) [] (D.st W)):aE 26 4921 [.l (an 2),.l (ag s),.l (ag t)] (m.st R) (aA r) [] (D.st W):=
  ni (v_ (fun e=>y (dh e)) E θ L ι ((Pm (m:=m) f.1 (d.far I).1 f.2.1 f.2.2 E L U V).up (aY rfl)) (h.up j) (aY rfl))
 cases j:m.K.lookup (s,t) with
 |some κ=>exact q m R κ (F (aY rfl) (AZ j)) ⟨I,.f,bu _ _,g,w,zi I i d (o.kok _ (sU j)),fun _=>⟨rfl,rfl⟩,fun _=>rfl,fun _ _ h d=>aR (sU j) (d▸h.2)⟩
 |none=>
  by_cases u:(s,t)∈m.tr
  ·exact q m R af (F (aY rfl) (CJ j u)) ⟨I,.f,bu _ _,g,w,zi I i d (o.aok _ u ζ),(fun h=>(by cases h)),fun _=>rfl,fun _ _ h=>aR u h.1⟩
  ·have α:=ft (t0 (bu _ _)) P;refine OU ⟨I,w' o j u α,w,δ,fun p μ=>(eS.mp μ).elim (fun e=>⟨a,e▸i⟩) (ε p), ?_,N,D7 S,fun e=>nomatch(pk.mp e).2⟩ i d A B y fun m2 v r c T=> ?_
   ·show m.a+1+_≤_;rw[tY];exact P
   refine(wl o T.x j u (aY rfl) α (rr S (aY rfl)) η (MD E L U V c) T.g (aI (av ⟨a,b,i.mono T.x,d.mono T.x,T.iff⟩))).elim fun D z=>z.elim fun ν Z=>Z.elim fun ξ n=>n.elim fun ο π=>π.elim fun Q β=>q D v r (F (aY rfl) ν) ⟨T.I,T.x,T.z,ξ,ο▸T.w,T.iff,β,fun h=> ?_,fun h ρ _ γ=> ?_⟩
   ·cases r with
    |false=>exact(β rfl).1
    |true=>rw[Q rfl];exact T.n1 (h.imp (fun h=>h.resolve_right y) id)
   ·rw[Q γ];exact T.n2 (gl fun e=>h (av e)) ρ γ
theorem qp {a:Nat}:f9 (ac (a:Int)) ah (.c l)=ac (.c (l.drop a)):=by
 show ac (aj.c (dH l (ac (a:Int)) ah))=_;unfold dH lH;simp only[gG,if_true,py,D1];by_cases h:a≤l.length
 ·rw[t9 h]
 ·rw[x9 (by exact cD (.c 1 (.a .b .n1) .f (.g 1 .b .f)) rfl (f' h)),Rg (by exact dN (.g 1 .b .b) rfl),Rg (by exact cD (.c 1 (.a .b .n1) .f (.g 1 .b .f)) rfl (f' h))]
noncomputable def iA (K:List ((Nat×Nat)×Bool)) (tr:List (Nat×Nat)) (p:Nat×Nat):List (Nat×Nat):=if p∉tr∧K.lookup p=ah then tr++[p] else tr
noncomputable def i_ (K:List ((Nat×Nat)×Bool)) (tr X:List (Nat×Nat)):List (Nat×Nat):=X.foldl (iA K) tr
theorem FR (K:List ((Nat×Nat)×Bool)):∀(X tr:List (Nat×Nat)),tr.Nodup→(∀p∈tr,K.lookup p=ah)→(i_ K tr X).Nodup∧(∀p∈i_ K tr X,K.lookup p=ah)∧(∃y,i_ K tr X=tr++y)∧(∀p∈i_ K tr X,p∈tr∨p∈X)∧(i_ K tr X).length≤tr.length+X.length:=by
 intro X;induction X with
 |nil=>
  exact fun tr d f=>⟨d,f,⟨[],by simp[i_]⟩,fun p j=>av j,bv _⟩
 |cons p X i=>
  intro tr d f;have k:(iA K tr p).Nodup∧(∀q∈iA K tr p,K.lookup q=ah)∧(∃y,iA K tr p=tr++y)∧(∀q∈iA K tr p,q∈tr∨q=p)∧(iA K tr p).length≤tr.length+1:=by
   unfold iA;split
   ·rename_i h;refine kG (ke.mpr ⟨d,by simp,fun a l b m e=>h.1 (by rw[bW.mp m] at e;exact e▸l)⟩) (fun q c=> ?_) (⟨[p],rfl⟩) (fun q c=> ?_) (by simp)
    ·rcases dD.mp c with c|c
     ·exact f q c
     ·rw[List.mem_singleton.mp c];exact h.2
    ·rcases List.mem_append.mp c with c|c
     ·exact .inl c
     ·exact .inr (List.mem_singleton.mp c)
   ·exact⟨d,f,⟨[],by simp⟩,fun q c=>.inl c,by exact dN (.g 1 .b (.a .b .n1)) rfl⟩
  refine jc k fun A n g o r=> ?_;obtain⟨y,s⟩:=g;refine jc (i (iA K tr p) A n) fun B t g u v=> ?_;obtain⟨Z,w⟩:=g;refine kG B t (⟨y++Z,by show i_ K (iA K tr p) X=_;rw[w,s,ef]⟩) (fun q c=> ?_) (by simp;exact b7 (.c 1 .b (.a .f .n1) (.c 1 .g (.a .b .j) (.g 1 .g (.a .f (.a .j .n1))))) rfl r v);rcases u q c with h|h
  ·rcases o q h with h|h
   ·exact .inl h
   ·exact .inr (by simp[h])
  ·exact .inr (by simp[h])
theorem dU.cut (o:eC R Pr m) (x:bL R r) (g:dU r Pr m M c):dU r Pr m {M with N:=m.N,tr:=m.tr} c:=by
 refine g.tr.elim fun X a=> ?_;have b:M.tr.length=m.tr.length+X.length:=by rw[a];simp
 have z:=ao (bu m.tr.length X.length) (a9 b.symm);exact⟨⟨o.nd,fun p h=>g.ok.kt p (by rw[a];exact cG _ h),g.ok.kok,fun p h q=>(o.aok p h q).mono x,ao (ci z _) g.ok.len,g.ok.a,o.N⟩,g.dp,bv _,bu ..,g.tel,g.n,g.l,⟨[],(c8 _).symm⟩,ao (dc (ci z _) _) g.i,g.kf⟩
theorem dU.laid (g:dU R Pr m M c) (t:M.tr=m.tr) (b:M.N=m.N) (d:k≤c) (o:m.N+c≤100000) (r:∀p∈X,p∉Pr→jV R p af) (e:M.K.length+X.length+m.a≤M.a+m.K.length) (s:m.K.length+m.tr.length≤m.a):
  dU R Pr m {M with N:=M.N+k,tr:=i_ M.K M.tr X} c∧(i_ M.K M.tr X).length≤M.tr.length+X.length:=by
 refine jc (FR M.K X M.tr g.ok.nd g.ok.kt) fun A u y v a=> ?_;obtain⟨w,x⟩:=y;refine⟨⟨⟨A,u,g.ok.kok,fun p z q=> ?_, ?_,g.ok.a,ao (dd (a9 b) d) o⟩,g.dp,ao (a9 b.symm) (bu ..),dd (a9 b) d,g.tel,g.n,g.l,⟨w,by rw[x,t]⟩, ?_,g.kf⟩,a⟩
 ·rcases v p z with h|h
  ·exact g.ok.aok p h q
  ·exact r p h q
 ·rw[t] at a⊢;exact lz (.c 1 .b (.a .f .g) (.c 1 (.a (.a .j .g) .l) (.a .o .p) (.c 1 (.a .p .f) .l (.g 1 (.a .j .b) .o)))) rfl a e s
 ·rw[t] at a⊢;exact lz (.c 1 .b (.a .f .g) (.c 1 (.a (.a .j .g) .l) (.a .o .p) (.g 1 (.a (.a .j .b) .l) (.a (.a .o .p) .f)))) rfl a e
noncomputable def lJ:aj:=.j [ae 3,ae 0]
noncomputable def ph (X:List (Nat×Nat)) (k:Nat):aj:=.j [.c (cx k lJ),.c (X.map bc)]
theorem Nw {m:bh} (o:m.N+k≤1000000) (q:m.tr.length+X.length≤100000):
  aE 1 219 [.l (an 2),.l (ph X k)] (m.st R) a4 [] ({m with N:=m.N+k,tr:=i_ m.K m.tr X}.st R):=yW.of _ _ fun n v=>by
 have G:fL 4 (.c (cx m.N lJ)) [.c (cx k lJ)]=ac (a4,.c (cx (m.N+k) lJ)):=by
  rw[←List.replicate_append_replicate];exact aJ (by rw[kX,kX];exact o)
 obtain⟨T,⟨rfl,_⟩,L⟩:=hr (n:=n) (g:=219) (b:=ah) [1] bc X (fun _ _=>[(27,.l (an 2)),(40,.l (ph X k))]) (fun _ T=>{m with N:=m.N+k,tr:=T}.st R) (fun d T=>T=i_ m.K m.tr d∧T.length≤m.tr.length+d.length) m.tr ⟨rfl,bv _⟩ rfl
  (fun D p r T e z=>z.elim fun E c=>by
   have f:T.length≤1000000:=ao c (ao (ci (by rw[e,bi];exact bu _ _) _) (aD q rfl));have s:i_ m.K m.tr (D++[p])=iA m.K T p:=by rw[E];exact rc
   have t:(iA m.K T p).length≤m.tr.length+(D++[p]).length:=by
    rw[bi];refine ao ?_ (b3 c);unfold iA;split
    ·exact ak bi (bv _)
    ·exact fQ _
   refine hK (iA m.K T p) a' (⟨s.symm,t⟩) (av rfl) (?_) rfl;have i:=v2 (p:=p) (l:=T);have I:=qu (p:=p) (l:=m.K);unfold iA;by_cases a:p∈T
   ·have i:=cu a▸i;refine ak (aL fun h=>h.1 a) ?_;exact bq 0 [.has i]
   ·rw[cP a] at i;induction j:m.K.lookup p with
    |some b=>
     rw[j] at I;refine ak (aL fun h=>nomatch h.2) ?_;exact bq 0 [.has i,.has I]
    |none=>
     rw[j] at I;refine ak (aJ ⟨a,rfl⟩) ?_;have u:fL 3 (.c (T.map bc)) [bc p]=ac (a4,.c ((T++[p]).map bc)):=by
      rw[cm];exact aJ (by rw[aB];exact f)
     exact bq 0 [.has i,.has I,.set (u2 a f),.u u])
 exact aw 17 [.u G,.sub L]
structure xs (m:bh) (R:List aj) (Pr:List (Nat×Nat)) (c z:Nat) (m1:bh) (r:List aj):Prop where
 I:aW r
 x:bL R r
 z:r.length≤R.length+z
 g:dU r Pr m m1 c
 w:d6 m1.tw
 t:m1.tr=m.tr
 N:m1.N=m.N
noncomputable def y4 (d:aj):aj→aj
 |.none=>d
 |h=>h
noncomputable def mA (s:Nat) (X h:aj):au:=[(27,.l (an 2)),(29,.l (ag s)),(23,.l X),(40,.l h)]
section
variable{m1 m2:bh}
abbrev vy (n s j:Nat) (X h:aj) (Y:ar) (f:cR) (h':aj) (st':ar):Prop:=fc n 218 [1] (he (mA s X a4)) (ag j) (mA s X h) Y f (mA s X h') st'
theorem Mt (mk:aZ n 4924 [.l (an 2)] (m1.st R) (.j [ag m1.N,ag m1.tr.length]) [] (m1.st R)) (a:aZ n 4921 [.l (an 2),.l (ag s),.l (ag j)] (m1.st R) (aA ai) [] (m2.st r)):vy n s j X h (m1.st R) a' h (m2.st r):=by
 exact bq 0 [.call mk,.call a]
theorem Js (mk:aZ n 4924 [.l (an 2)] (m1.st R) (.j [ag m1.N,ag m1.tr.length]) [] (m1.st R)) (a:aZ n 4921 [.l (an 2),.l (ag s),.l (ag j)] (m1.st R) (aA af) [] (m2.st r)) (hz:m2.N≤1000000) (e:m2.N=m1.N):vy n s j X h (m1.st R) (.h (aA af)) h (m2.st r):=by
 exact bq 4352 [.call mk,.call a,.p (ds:=cx m2.N lJ) kX (aD hz rfl),.x (i:=m2.N) (b:=af) (by refine ak e ?_;exact iX _)]
theorem Nr (mk:aZ n 4924 [.l (an 2)] (m1.st R) (.j [ag m1.N,ag m1.tr.length]) [] (m1.st R)) (a:aZ n 4921 [.l (an 2),.l (ag s),.l (ag j)] (m1.st R) (aA af) [] (m2.st r)) (hz:m2.N≤1000000) (e:m2.N≠m1.N)
  (d:m2.tr=m1.tr++y) (b:aZ n 4925 [.l (an 2),.l (.j [ag m1.N,ag m1.tr.length])] (m2.st r) a4 [] ({m2 with N:=m1.N,tr:=m1.tr}.st r)) (f:h=a4∨∃k X,h=ph X k):
  vy n s j X h (m1.st R) a' (y4 (ph y (m2.N-m1.N)) h) ({m2 with N:=m1.N,tr:=m1.tr}.st r):=by
 have c:=c5.mpr e;have l:m2.N≤16777216:=aD hz rfl;rcases f with rfl|⟨k,x,rfl⟩
 ·have S:f9 (some (m1.N:Int)) none (.c (List.replicate m2.N lJ))=some (.c (List.replicate (m2.N-m1.N) lJ)):=by rw[qp,List.drop_replicate]
  have g:f9 (some (m1.tr.length:Int)) none (.c (m2.tr.map bc))=some (.c (y.map bc)):=by rw[qp,d,List.map_append,List.drop_left' (List.length_map _)]
  exact bq 1184000 [.call mk,.call a,.p (ds:=List.replicate m2.N lJ) List.length_replicate l,.x c,.cut S,.cut g,.call b]
 ·exact bq 69888 [.call mk,.call a,.p (ds:=List.replicate m2.N lJ) List.length_replicate l,.x c,.call b]
end
section
variable{P q:Nat→Prop} {z:Nat}
structure C3 (m:bh) (Pr:List (Nat×Nat)) (P q:Nat→Prop) (c:Nat) (D:List Nat) (R:List aj) (m1:bh) (k:Nat) (X:List (Nat×Nat)):Prop where
 b:0<k
 d:k≤c*D.length
 f:∃j∈D,P j
 h3:∀j∈D,P j→¬q j
 h4:m.tel=af
 h5:∀p∈X,p∉Pr→jV R p af
 a:m1.K.length+X.length+m.a≤m1.a+m.K.length
 e:X.length≤50000
def Fg (m:bh) (Pr:List (Nat×Nat)) (P q:Nat→Prop) (c:Nat) (d:List Nat) (R:List aj) (m1:bh) (h:aj):Prop:=(h=a4∧∀j∈d,¬P j)∨∃k X,h=ph X k∧C3 m Pr P q c d R m1 k X
theorem i3 {B:c→Prop} (h:∀i∈d,B i) (a:B j):∀i∈d++[j],B i:=fun i b=>(dD.mp b).elim (h i) fun e=>bW.mp e▸a
theorem C3.more {m1:bh} (h:C3 m Pr P q c D R m1 k X) (x:bL R r) (g:P j→¬q j) (n:m2.K.length+m1.a≤m2.a+m1.K.length):C3 m Pr P q c (D++[j]) r m2 k X:=
 ⟨h.b,by refine ak bi ?_;exact ao h.d (fh _ (bu _ _)),ay h.f fun i o l=>⟨i,cG _ o,l⟩,i3 h.h3 g,h.h4,fun p l g=>(h.h5 p l g).mono x,by have:=h.a;exact lz (.c 1 (.a .b .f) (.a .g .j) (.c 1 (.a (.a .j .l) .o) (.a .f .p) (.g 1 (.a (.a .b .l) .o) (.a .g .p)))) rfl n this,h.e⟩
structure Gi (m:bh) (R:List aj) (Pr:List (Nat×Nat)) (P q:Nat→Prop) (c z:Nat) (d:List Nat) (x:(bh×List aj)×aj):Prop where
 g:xs m R Pr (c*d.length) (z*d.length) x.1.1 x.1.2
 H:Fg m Pr P q c d x.1.2 x.1.1 x.2
theorem xs.snoc (a:xs m R Pr (c*d.length) (z*d.length) m1 b) (i:aW r) (x:bL b r) (hz:r.length≤b.length+z) (g:dU r Pr m m2 (c*d.length+c)) (w:d6 m2.tw) (t:m2.tr=m.tr) (N:m2.N=m.N):xs m R Pr (c*(d++[j]).length) (z*(d++[j]).length) m2 r:=ak bi (⟨i,a.x.trans x,ao hz (ao (dc a.z z) (a9 (ev ..))),g,w,t,N⟩)
theorem Ac (I:aW R) (μ:eC R Pr m) (χ:d6 m.tw) {js:List Nat} {X:aj} (ν:X=.j (js.map ag)∨X=.c (js.map ag)) (ψ:m.tr≠[]∨m.tel=ai) (γ:2≤k)
  (ε:∀j∈js,∀m1 ξ i,i+1≤js.length→xs m R Pr (c*i) (z*i) m1 ξ→∀D:Prop,
   (∀m2 U r,aE k 4921 [.l (an 2),.l (ag s),.l (ag j)] (m1.st ξ) (aA r) [] (m2.st U)→xL m1 ξ Pr (P j) (q j) ((s,j)∉m1.tr∧((s,j),af)∉m1.K) c z m2 U r→D)→D)
  (a₇:m.a+c*js.length≤20000) (ο:m.N+c*js.length≤90000)
  {G:Prop} (Q:∀m2 U r,aE (k+1) 218 [.l (an 2),.l (ag s),.l X] (m.st R) (aA r) [] (m2.st U)→xL m R Pr (∃j∈js,P j) (∃j∈js,P j∧q j) (∀j∈js,(s,j)∉m.tr∧((s,j),af)∉m.K) (c*js.length) (z*js.length) m2 U r→G):G:=by
 have ω {d τ:List Nat} {j:Nat} (e:js=d++j::τ):d.length+1≤js.length:=ak e (ak bi (ci (b3 (cA _)) _))
 refine qF (N:=(k≤·)) (g:=218) (b:=ah) [1] ag js (fun x=>mA s X x.2) (fun x=>x.1.1.st x.1.2) (Gi m R Pr P q c z)
  (fun f x=>f=a'∧Gi m R Pr P q c z js x∨f=.h (aA af)∧xL m R Pr (∃j∈js,P j) (∃j∈js,P j∧q j) (∀j∈js,(s,j)∉m.tr∧((s,j),af)∉m.K) (c*js.length) (z*js.length) x.1.1 x.1.2 af)
  ((m,R),a4) ⟨⟨I,.f,bv _,.f μ,χ,rfl,rfl⟩,av ⟨rfl,fun _ h=>(by cases h)⟩⟩ rfl (fun d j τ x e v D υ a₀=> ?_) (fun x h=>av ⟨rfl,h⟩) fun f x h w=> ?_
 ·have δ:=eO e;have l:=ω e;have π {n:Nat} (u:k≤n):=v5 (R:=x.1.2) (aD (v.g.N▸ao (bu _ _) ο) rfl) (aD v.g.g.ok.small.tr rfl) n (ao (kg γ) u);refine ε j δ x.1.1 x.1.2 d.length l v.g _ fun m2 U r a A=> ?_;have t:=v.g.g.trans A.g;have ζ:=A.g.i;induction r with
  |false=>
   refine(A.n0 rfl).elim fun a₁ T=> ?_;have o:¬P j:=fun L=>nomatch A.iff.mpr L;refine υ ((m2,U),x.2) ⟨v.g.snoc A.I A.x A.z t A.w (T.trans v.g.t) (a₁.trans v.g.N),v.H.imp (fun D=>⟨D.1,i3 D.2 o⟩) fun z=>bK z fun i V E D=>cN i V E (D.more A.x (fun L=>aR L o) ?_)⟩ rfl fun n u=>Mt (π u) (a n u);rw[T] at ζ;exact eY (.c 1 (.a (.a .b .f) .g) (.a (.a .j .l) .f) (.g 1 (.a .b .g) (.a .j .l))) rfl ζ
  |true=>
   have ρ:=A.iff.mp rfl;have S:=A.g.ok.small.N;by_cases W:m2.N=x.1.1.N
   ·refine a₀ (.h (aA af)) ((m2,U),x.2) (aI ⟨rfl,A.I,v.g.x.trans A.x, ?_,t.le (fh c l),A.w,⟨fun _=>⟨j,δ,ρ⟩,fun _=>rfl⟩,(fun h=>(by injection h)),fun _=>W.trans v.g.N,fun η θ φ _=> ?_⟩) rfl fun n u=>Js (π u) (a n u) S W
    ·exact ao A.z (ao (dc v.g.z z) (ao (a9 (ev ..)) (ci (fh z l) _)))
    ·have a₂:=ψ.resolve_right fun h=>nomatch θ.symm.trans h;exact aR W (lP (A.n2 (fun α=>η ⟨j,δ,ρ,α⟩) (v.g.g.tel.trans θ) ⟨v.g.t▸(φ j δ).1,fun γ=>(v.g.g.kf a₂ _ γ).elim (φ j δ).2 fun e=>(by injection e)⟩ rfl))
   ·have θ:=gl fun h=>W (A.n1 (aI (v.g.g.tel.trans (nV.mpr h))));have η:=fun α=>W (A.n1 (av α));refine A.g.tr.elim fun y ι=> ?_;have κ:=aS gK ι;rw[bi] at κ;have Z:=A.g.ok.small.tr;have B {n:Nat} (u:k≤n):=Lk (R:=U) A.g.ok.nd A.g.N (κ▸bu _ _) (jg Z (by decide)) n (ao γ u);rw[ι,t_] at B;have a₃:m2.K.length+x.1.1.a+y.length≤m2.a+x.1.1.K.length:=by rw[κ] at ζ;exact j' (.c 1 (.a (.a .b (.a .f .g)) .j) (.a (.a .l .o) .f) (.g 1 (.a (.a .b .j) .g) (.a .l .o))) rfl ζ
    refine υ (({m2 with N:=x.1.1.N,tr:=x.1.1.tr},U),y4 (ph y (m2.N-x.1.1.N)) x.2) ⟨?_, ?_⟩ rfl fun n u=>Nr (π u) (a n u) S W ι (B u) (v.H.imp (·.1) fun z=>bK z fun i V E _=>oZ i V E)
    ·have a₄:=t.cut μ (v.g.x.trans A.x);exact ak v.g.N (ak v.g.t (v.g.snoc A.I A.x A.z a₄ A.w rfl rfl))
    ·rcases v.H with⟨E,o⟩|⟨i,V,E,D⟩
     ·refine .inr ⟨m2.N-x.1.1.N,y,by refine ak E ?_;rfl,Nat.sub_pos_of_lt (Nat.lt_of_le_of_ne A.g.N fun e=>W e.symm), ?_,bd j (List.mem_append_right _ (.head _)) ρ,i3 (fun i a₅ L=>absurd L (o i a₅)) fun _=>η,θ,fun p L α=>A.g.ok.aok p (ι▸List.mem_append_right _ L) α, ?_,Nat.le_trans (κ▸Nat.le_add_left _ _) Z⟩
      ·exact ak List.length_append (Nat.le_trans (Nat.sub_le_iff_le_add'.mpr A.g.j) (Nat.le_add_left _ _))
      ·have a₆:=v.g.g.i;rw[v.g.t] at a₆;lia
     ·exact .inr (cN i V (by refine ak E ?_;rfl) (D.more A.x (fun _=>η) (Nat.le_trans (Nat.le_add_right _ _) a₃)))
 ·have β {n:Nat} (u:k≤n) (w:ca bw (aZ n) (dR 218 [1] none (js.map ag) (mA s X .none) (m.st R)) f (mA s X x.2) (x.1.1.st x.1.2)) {F:cR} (e:f=F):ca bw (aZ n) (dR 218 [1] none (js.map ag) (mA s X .none) (m.st R)) F (mA s X x.2) (x.1.1.st x.1.2):=e▸w;rcases h with⟨e,h⟩|⟨e,h⟩
  ·rcases h.H with⟨E,o⟩|⟨i,V,E,D⟩
   ·refine Q x.1.1 x.1.2 false (yW.of _ _ fun n u=> ?_) ⟨h.g.I,h.g.x,h.g.z,h.g.g,h.g.w,⟨(fun h=>(by injection h)),fun z=>ay z fun j σ L=>absurd L (o j σ)⟩,fun _=>⟨h.g.N,h.g.t⟩,fun _=>h.g.N,fun _ _ _ h=>(by injection h)⟩;have w:=β u (w n u) e;rw[E] at w;clear h e β ε Q E o;rcases ν with rfl|rfl<;>exact aw 0 [.sub w]
   ·have l:=h.g.g.laid h.g.t h.g.N D.d (aD ο rfl) D.h5 D.a μ.len;refine Q {x.1.1 with N:=x.1.1.N+i,tr:=i_ x.1.1.K x.1.1.tr V} x.1.2 true (yW.of _ _ fun n u=> ?_) ⟨h.g.I,h.g.x,h.g.z,l.1,h.g.w,⟨fun _=>D.f,fun _=>rfl⟩,(fun h=>(by injection h)),(fun h=> ?_),fun _ _ _ _=> ?_⟩
    ·have C:=Nw (R:=x.1.2) (by refine ak h.g.N ?_;exact Nat.le_trans (Nat.add_le_add_left D.d _) (aD ο rfl)) (Nat.add_le_add h.g.g.ok.small.tr D.e) n (Nat.le_trans (Nat.le_of_succ_le γ) u);have w:=β u (w n u) e;rw[E] at w;clear h e β ε Q D l E;rcases ν with rfl|rfl<;>exact aw 16 [.sub w,.call C]
    ·exact h.elim (fun z=>eA z fun j σ L α=>absurd α (D.h3 j σ L)) fun h=>nomatch D.h4.symm.trans h
    ·refine ak h.g.N ?_;exact Nat.lt_add_of_pos_right D.b
  ·refine Q x.1.1 x.1.2 af (yW.of _ _ fun n u=> ?_) h;have w:=β u (w n u) e;clear h e β ε Q;rcases ν with rfl|rfl<;>exact aw 0 [.sub w]
end
noncomputable def dG (p:Nat):aj:=bP (gp (toString p))
theorem Qp {P:Nat→Prop}:p<0→P p:=fun h=>aR h (rl _)
theorem tz {P:Nat→Prop} (h:∀{p},p<n→P p) (a:P n) (b:p<n+1):P p:=(x2 (iW b)).elim h fun e=>e▸a
theorem mj {P:Nat→Prop} (h:P 0) (a:P 1) (b:P 2):∀{p},p<3→P p:=tz (tz (tz Qp h) a) b
theorem sO {p:Nat} (a:p<3):aE 1 236 [.l (dG p)] Y (aA af) [] Y:=by
 refine mj (P:=fun p=>aE 1 236 [.l (dG p)] Y (aA af) [] Y) ?_ ?_ ?_ a
 all_goals
  refine yW.of _ _ fun n b=> ?_;have C (p:Nat) (h:∀q∈[p],iS (dy bw (aZ n) 57) (kV 236 [0] 0 57 (dG q) [(50,.l (dG p))] Y) [aA af] [(50,.l (dG p))] Y):=fM [0] 0 57 dG [p] (fun _=>[aA af]) [(50,.l (dG p))] Y h
 ·have c:=C 0 (tS.mpr (by exact cX 0 []));exact aw 1 [.sub c]
 ·have c:=C 1 (tS.mpr (by exact cX 0 []));exact aw 1 [.sub c]
 ·have c:=C 2 (tS.mpr (by exact cX 0 []));exact aw 1 [.sub c]
theorem Fq {p:Nat} (h:p<3):aE 1 237 [.l (dG p)] Y (ag p) [] Y:=by
 refine mj (P:=fun p=>aE 1 237 [.l (dG p)] Y (ag p) [] Y) ?_ ?_ ?_ h<;>refine yW.of _ _ fun n a=> ?_
 ·exact aw 0 []
 ·exact aw 0 []
 ·exact aw 0 []
theorem Fe {p:Nat} (a:p<3):aE 2 238 [.l (dG p)] Y (aA af) [] Y:=by
 refine mj (P:=fun p=>aE 2 238 [.l (dG p)] Y (aA af) [] Y) ?_ ?_ ?_ a<;>refine yW.of _ _ fun n h=> ?_
 ·exact aw 3 [.call (sO (Y:=Y) (p:=0) (aY rfl) n h)]
 ·exact aw 3 [.call (sO (Y:=Y) (p:=1) (aY rfl) n h)]
 ·exact aw 3 [.call (sO (Y:=Y) (p:=2) (aY rfl) n h)]
theorem Kt:aE 1 6295 [.l (an 1),.l (ag t),.l d] Y a4 [] Y:=yW.of _ _ fun n h=>by
 exact aw 0 []
section
theorem NV (h:R[i]? =ac (.j (ae a::x))) (k:a=11∨a=12):aE 2 228 [.l (an 1),.l (ag i)] (aF R::bF::J) (.c [ag i]) [] (aF R::bF::J):=yW.of _ _ fun n l=>by
 obtain⟨f,L,s,⟨rfl,rfl,rfl⟩,w⟩:=wG (n:=n) (g:=228) [3] (fun b:Bool=>[(34,.l (an 1)),(19,.l (ag i)),(13,bE (.c (if b then[] else[ag i]))),(46,bE (.e (if b then[] else b8 [i]))),(47,bE (.c (if b then[ag i] else[])))]) (fun _=>aF R::bF::J) (fun _=>True) (fun b=>if b then 1 else 0)
  (fun f L s=>f=a'∧L=[(34,.l (an 1)),(19,.l (ag i)),(13,bE (.c [ag i])),(46,bE (.e (b8 [i]))),(47,bE (.c []))]∧s=aF R::bF::J) af trivial (aY rfl) rfl fun b _=>by
  cases b with
  |true=>
   refine av ⟨ai,a',trivial,pB,av rfl, ?_⟩;have c:=kP (t:=i) (Y:=aF R::bF::J) n l;have d:=rU (i:=i) (G:=[]);have e:=pZ (i:=i) (G:=[]) (cA _);have j:(wK.k a6 (.j [ag i]) (.j [ag i])).e=ac true:=by
    show ac ((ag i).beq (ag i)&&af)=_;rw[my,cu rfl];rfl
   rcases k with rfl|rfl
   ·exact bq 17825794 [.call c,.has d,.set e,.row h,.get (eI (a:=.int 11) (x:=x)),.get (eI (a:=.int 11) (x:=x)),.z j]
   ·exact bq 17825794 [.call c,.has d,.set e,.row h,.get (eI (a:=.int 12) (x:=x)),.get (eI (a:=.int 12) (x:=x)),.z j]
  |false=>exact aI ⟨.o,_,_,rfl,by exact bq 0 [],rfl,rfl,rfl⟩
 exact aw 0 [.sub w]
noncomputable def tI (E:List (Nat×Nat)):Nat:=(en E).getD E.length
theorem zS {E:List (Nat×Nat)} (a:E.length≤100000) (f:∀q∈E,q.2<3):aE 1 234 [.l (.j [ae 12,.j (bf E),r])] Y (ag (tI E)) [] Y:=yW.of _ _ fun n k=>by
 have d:E.length≤16777216:=aD a rfl;have l:=l4 (n:=n) (g:=234) (b:=ah) [1] (fun p=>ag p.2) E.zipIdx (fun p=>if aM (2≤p.1.2) then ac (ag p.2) else ah) [(20,.l (.j [ae 12,.j (bf E),r]))] Y rfl rfl fun j h=>by
  have h:=nH h;have I:cZ (ag j.1.2) (.j [ae 2,ae 3])=ac (aM (2≤j.1.2)):=by
   exact mj (P:=fun m=>cZ (ag m) (.j [ae 2,ae 3])=ac (aM (2≤m))) rfl rfl rfl (f j.1 (eR h))
  cases c:aM (2≤j.1.2)<;>rw[c] at I<;>exact bq 17 [.get (nw (hS h)),.has I]
 rw[wI,←lj] at l;unfold tI;cases e:en E with
 |none=>rw[e] at l;exact aw 4099 [.G ed d,.le a,.sub l,.G ed d]
 |some i=>rw[e] at l;exact aw 3 [.G ed d,.le a,.sub l]
noncomputable def aK.rd (a:aK) (p:Nat):Option (List Nat):=
 if p<a.hs.length then a.hs[p]?else if p<a.fr then(a.os[p-a.hs.length]?).map fun k=>cM (k++[8]) else if a.rs=[] then ah else ac (cM (a.rs++a.ts).flatten)
theorem OI {a:aK} (o:a.Ok) (h:p<a.fr):∃k mk,a.els[p]? =ac (k,mk)∧a.rd p=ac (fK k mk):=by
 refine(oK o).elim fun b z=>z.elim fun d _=> ?_;unfold aK.rd;by_cases c:p<a.hs.length
 ·refine⟨_,0,b p c, ?_⟩;rw[aJ c,cS c];rfl
 ·have C:=tT (dC c) h;have e:=d _ C;rw[ra (dC c)] at e;refine⟨_,1,e, ?_⟩;rw[aL c,aJ h,cS C];rfl
theorem Ap {a:aK} (o:a.Ok) (h:E.map (·.2)=a.els.map (·.2)):tI E=a.fr:=by
 unfold tI;rw[kb o h];by_cases r:a.rs=[]
 ·rw[aJ r];have:=l2 h;rw[r,qb o r] at this;exact this
 ·rw[aL r];rfl
theorem Jj {a:aK}:a.els.drop a.fr=a.rs.map (·,2)++a.ts.map (·,0):=by
 unfold aK.els aK.fr;rw[ef (a.hs.map _++a.os.map _),Sc (by rw[bi,aB,aB])]
theorem b6.drop (n:Nat) (h:b6 R E l):b6 R (E.drop n) (l.drop n):=by
 induction h generalizing n with
 |nil=>rw[Sn,Sn];exact g9
 |cons a b h i=>cases n with
  |zero=>exact gO a b h
  |succ n=>exact i n
theorem b6.d (h:b6 R E l):∃qs:List (Nat×List Nat×List Nat),qs.map (fun q=>ag q.1)=E.map (fun p=>ag p.1)∧(∀q∈qs,bH R q.1 q.2.1 q.2.2)∧qs.map (·.2.1)=l.map (·.1):=by
 induction h with
 |nil=>exact⟨[],rfl,(fun _ h=>nomatch h),rfl⟩
 | @cons e m k O E l a _ _ i=>
  exact i.elim fun qs z=>z.elim fun b Z=>Z.elim fun f g=>⟨(e,k,O)::qs,aS (ag e::·) b,fun q j=>(eS.mp j).elim (fun e=>e▸a) (f q),aS (k::·) g⟩
noncomputable def Bc:Option Nat→aj
 |none=>ae (-1)
 |some t=>ag t
noncomputable def Na (R:List aj):Option (List Nat)→Option Nat→Prop
 |none,none=>True
 |some k,some t=>∃O,bH R t k O
 |_,_=>False
def p2 (J:ar) (R:List aj) (k g:Nat) (a:List fJ) (d:Option (List Nat)) (z:Nat):Prop:=∀{G:Prop},(∀o r,aE k g a (aF R::bF::J) (Bc o) [] (aF r::bF::J)→aW r→bL R r→r.length≤R.length+z→Na r d o→G)→G
end
section
variable{R:List aj} {J:ar}
theorem Gl {E:List (Nat×Nat)} {l:List (List Nat×Nat)} {r:aj} {i:Nat} {Y:ar} (I:aW R) (f:b6 R E l) (j:l≠[]) (z:E.length≤50) (o:R.length≤900000) {x:aj}
  (c:aE 1 234 [.l (.j [ae 12,x,r])] (aF R::bF::J) (ag i) [] (aF R::bF::J)) (s:f9 (ac (i:Int)) ah (match x with|.j l=>.j l|_=>.j [])=ac (.j (bf E))) (w:∃l,x=.j l):
  p2 J R 8 241 [.l (an 1),.l (.j [ae 12,x,r])] (ac (cM (l.map fun q=>fK q.1 q.2).flatten)) 51:=fun{G} q=>by
 refine w.elim fun y A=> ?_;subst A;refine uW (N:=(7≤·)) (g:=241) (i:=0) (k:=56) [1] (L:=[(34,.l (an 1)),(20,.l (.j [ae 12,.j y,r])),(53,.l (.j (bf E)))]) (W:=fun q=>ag q.1) (J:=bF::J) I f (dd o (ao z (show 50≤100000 by decide))) (fun B t M ζ O b p m F η q=>
  tP (J:=bF::J) b p m F fun T d P h=>q T d P fun n a=>by
   exact cX 0 [.call (h n (bl a rfl))]) fun θ B b X Z S C=> ?_
 refine eA S.d fun ι Q U V=> ?_;have u:=V.trans (eg ..);refine rT (J:=bF::J) b (av (by rw[Q])) U (fun e=>j (DK.mp (by rw[←u,e];rfl))) (ao Z (aD (dd o z) rfl)) fun t d O α β γ δ v=> ?_;refine q (ac t) d (yW.of _ _ fun n a=> ?_) β (X.trans γ) (ao δ (b3 (ao Z (ci z _)))) ⟨O,by rw[D3,u] at v;exact v⟩;have ε:(bf E).length≤b4:=ao (a9 ed) (aD z rfl);cases f with
 |nil=>exact aR rfl j
 |cons _ _ _=>
  exact aw 257 [.call (c n (bl a rfl)),.cut s,.le ε,.sub (C n a),.call (α n (bl a rfl))]
theorem Oj (I:aW R) {a:aK} (o:a.Ok) {E:List (Nat×Nat)} (b:b6 R E a.els) (z:E.length≤50) {r:aj} (f:R.length≤900000):
  p2 J R 8 241 [.l (an 1),.l (.j [ae 12,.j (bf E),r])] (if a.rs=[] then ah else ac (cM (a.rs++a.ts).flatten)) 51:=fun{G} q=>by
 have c:=zS (r:=r) (Y:=aF R::bF::J) (aD z rfl) b.lt3;have d:=Jj▸b.drop _;have c:=Ap o b.marks▸c;have s:f9 (ac (a.fr:Int)) ah (.j (bf E))=ac (.j (bf (E.drop a.fr))):=by
  show ac (aj.j (dH (bf E) (ac (a.fr:Int)) ah))=_;rw[aj.c.inj (bD (qp))];unfold bf;rw[yg]
 by_cases h:a.rs=[]
 ·rw[h,qb o h] at d;rw[aJ h] at q;rw[(fs.mp d.len)] at s;refine q ah R (yW.of _ _ fun n g=> ?_) I .f (bu _ _) trivial;have c:=c n (bl g rfl);exact aw 1 [.call c,.cut s]
 ·rw[aL h] at q;refine Gl (Y:=[]) I d (fun e=>h (DK.mp (pk.mp e).1)) (by refine ak rg ?_;exact ao (it _ _) z) f c s ⟨_,rfl⟩ ?_;rw[cm,eg,eg,show(fun q:List Nat×Nat=>fK q.1 q.2)∘(·,2)=id from rfl,show(fun q:List Nat×Nat=>fK q.1 q.2)∘(·,0)=id from rfl,ui,ui];exact q
theorem LO (I:aW R) {a:aK} (s:a.Ok) {E:List (Nat×Nat)} (g:b6 R E a.els) (z:E.length≤50) {r:aj} {p:Nat} (w:R.length≤900000):
  p2 J R 9 246 [.l (an 1),.l (.j [ae 12,.j (bf E),r]),.l (ag p)] (a.rd p) 51:=fun{G} q=>by
 have C:=zS (r:=r) (Y:=aF R::bF::J) (aD z rfl) g.lt3;have C:=Ap s g.marks▸C;by_cases f:p<a.fr
 ·refine bK (OI s f) fun k M e x=> ?_;have t:p<E.length:=by rw[g.len];exact(hy.mp e).1
  have u:=cS t;refine bK (g.at u) fun Q i l P=> ?_;rw[x] at q;rw[e] at l;obtain⟨rfl,m⟩:=Sg (bD l);refine tP (J:=bF::J) I P (g.lt3 _ (eR u)) (aD w rfl) fun T v i y A B F L=>q (ac T) v (yW.of _ _ fun n j=> ?_) A B (ao F (ci (by decide) _)) ⟨i,m▸L⟩;have C:=C n (bl j rfl);exact aw 256 [.call C,.A (cu f),.get (nw (hS u)),.call (y n (bl j rfl))]
 ·have N:a.rd p=if a.rs=[] then ah else ac (cM (a.rs++a.ts).flatten):=by
   unfold aK.rd;rw[aL (fun h=>f (ft h (bu _ _))),aL f]
  rw[N] at q;refine Oj (J:=J) I s g z (r:=r) w fun o v h a b c d=>q o v (yW.of _ _ fun n j=> ?_) a b c d;exact aw 0 [.call (C n (bl j rfl)),.A (cP f),.call (h n j)]
theorem I1 (I:aW R) {a:aK} {i:Nat} (u:cg R i a) (z:a.els.length≤50) {p:Nat} (m:p<3) (w:R.length≤900000):
  p2 J R 11 243 [.l (an 1),.l (ag i),.l (dG p)] (a.rd p) 51:=fun{G} q=>by
 rcases u.m with⟨e,k,O,l,P,x⟩|⟨E,l,v,f⟩
 ·have y:a.rd p=some k:=by
   rw[x];show some (cM (k++[]))=_;rw[List.append_nil,qm P.nk]
  have q:=y▸q;refine q (some e) R (yW.of _ _ fun n g=> ?_) I .f (Nat.le_add_right _ _) ⟨O,P⟩;have C:aE 3 242 [.l (.inst 1),.l (.j [.int 11,ag e,ag a.c]),.l (dG p)] (aF R::bF::J) (ag e) [] (aF R::bF::J):=yW.of _ _ fun n g=>by
   have h:=Fe (Y:=aF R::bF::J) m n g;exact aw 2 [.call h]
  have C:=C n (bl g rfl);exact aw 32 [.row l,.call C,.A (i:=e) (j:=0) rfl,.call (kP (t:=e) (Y:=aF R::bF::J) n (bl g rfl))]
 ·refine LO (J:=J) I u.1 v (v.len▸z) (r:=ag a.c) w fun o s h A b c d=>q o s (yW.of _ _ fun n g=> ?_) A b c d;have C:aE 10 242 [.l (an 1),.l (.j [ae 12,.j (bf E),ag a.c]),.l (dG p)] (aF R::bF::J) (Bc o) [] (aF s::bF::J):=yW.of _ _ fun n g=>by
   exact aw 18 [.call (sO (Y:=aF R::bF::J) m n (bl g rfl)),.call (Fq (Y:=aF R::bF::J) m n (bl g rfl)),.call (h n g)]
  have C:=C n g;induction o with
  |none=>exact aw 64 [.row l,.call C]
  |some t=>
   exact aw 64 [.row l,.call C,.A (i:=t) (j:=0) rfl,.call (kP (t:=t) (Y:=aF s::bF::J) n (bl g rfl))]
end
theorem vC (p:List Nat) (h:iS (dy bw (aZ n) k) (kV g p i k d L Y) vs l st'):ca bw (aZ n) (ep g p i k [d] L Y) (.h (.c (vs++[]))) l st':=qn (h.wp rfl)
theorem Ic (p:List Nat) {M:au} (f:ky g p=af) (h:fc n g p (he L) d L Y a' M st'):ca bw (aZ n) (dR g p ah [d] L Y) a' M st':=by
 unfold ky at f;unfold fc qa at h;unfold dR;generalize mw g p=q at f h;obtain⟨c,t,b⟩:=q;cases c with
 |some _=>exact hU f
 |none=>exact tf h (av rfl) rfl rfl
section
theorem PU {i:Nat} (a:¬(i:Int)=0) (b:¬(i:Int)=13) (h:aE k 243 [.l (an 1),.l (ag i),.l (dG p)] Y d [] st'):
  aE (k+1) 244 [.l (an 1),.l (ag i),.l a4,.l (dG p)] Y d [] st':=yW.of _ _ fun n c=>by
 exact aw 256 [.C a,.C b,.call (h n c)]
theorem O9 (h:R[i]? =ac (.j (ae a::x))) (f:a=11∨a=12):
  aE 2 239 [.l (an 1),.l (ag i),.l (dG p)] (aF R::bF::J) a4 [] (aF R::bF::J):=yW.of _ _ fun n b=>by
 have c:=kP (t:=i) (Y:=aF R::bF::J) n b;have e:=Kt (t:=i) (d:=dG p) (Y:=aF R::bF::J) n b;rcases f with rfl|rfl
 ·exact aw 4096 [.call c,.row h,.get (eI (a:=.int 11) (x:=x)),.call e]
 ·exact aw 69632 [.call c,.row h,.get (eI (a:=.int 12) (x:=x)),.get (eI (a:=.int 12) (x:=x)),.call e]
theorem OH:aE 1 227 [.l (.c [a4])] Y (aA ai) [] Y:=yW.of _ _ fun n h=>by
 exact aw 0 [.sub (Ic (n:=n) (g:=227) [1] (d:=a4) (L:=[(18,.l (.c [a4])),(43,bE (.e []))]) (M:=[(18,.l (.c [a4])),(43,bE (.e [(ae 0,ae 1)]))]) (Y:=Y) (st':=Y) rfl ⟨0,[],by kernel_rfl⟩)]
theorem PT {i:Nat} (h:¬(i:Int)=0) (a:¬(i:Int)=13):cZ (ag i) (.j [ae 0,ae 13])=ac false:=by
 show ac (((0:Int)==(i:Int))||(((13:Int)==(i:Int))||ai))=ac ai;rw[c5.mpr (fun e=>h e.symm),c5.mpr (fun e=>a e.symm)];rfl
theorem Qe {i:Nat} (c:3≤k) (e:R[i]? =ac (.j (ae a::x))) (j:a=11∨a=12) (f:gc i) (h:aE k 244 [.l (an 1),.l (ag i),.l a4,.l (dG p)] (aF R::bF::J) d [] st'):∀n,k≤n→
  ca bw (aZ n) (ep 245 [0] 0 59 [ag i] [(34,.l (an 1)),(19,.l (ag i)),(50,.l (dG p))] (aF R::bF::J)) (.h (.c [ag i])) [(34,.l (an 1)),(19,.l (ag i)),(50,.l (dG p))] (aF R::bF::J)∧
  ca bw (aZ n) (ep 245 [1] 0 59 [ag i] [(34,.l (an 1)),(19,.l (ag i)),(50,.l (dG p)),(23,.l (.c [ag i]))] (aF R::bF::J)) (.h (.c [a4])) [(34,.l (an 1)),(19,.l (ag i)),(50,.l (dG p)),(23,.l (.c [ag i]))] (aF R::bF::J)∧
  ca bw (aZ n) (ep 245 [2] 0 59 [ag 0] [(34,.l (an 1)),(19,.l (ag i)),(50,.l (dG p)),(23,.l (.c [ag i])),(18,bE (.c [a4]))] (aF R::bF::J)) (.h (.c [d])) [(34,.l (an 1)),(19,.l (ag i)),(50,.l (dG p)),(23,.l (.c [ag i])),(18,bE (.c [a4]))] st':=fun n b=>⟨vC (g:=245) (i:=0) (k:=59) (d:=ag i) [0] (vs:=[ag i]) (by exact cX 0 [.call (O1 (t:=i) (Y:=aF R::bF::J) n (bl (ao c b) rfl)),.call (kP (t:=i) (Y:=aF R::bF::J) n (bl (ao c b) rfl))]),vC (g:=245) (i:=0) (k:=59) (d:=ag i) [1] (vs:=[a4]) (by exact cX 0 [.has (PT f.n0 f.a),.call (O9 (J:=J) (p:=p) e j n (bl (ao c b) rfl))]),vC (g:=245) (i:=0) (k:=59) (d:=ag 0) [2] (vs:=[d]) (by exact cX 2 [.call (h n b)])⟩
theorem Ld (I:aW R) {a:aK} (b:cg R i a) (E:a.els.length≤50) (B:p<3) (l:R.length≤890000):
  p2 J R 13 245 [.l (an 1),.l (ag i),.l (dG p)] (a.rd p) 52:=fun{G} q=>by
 refine b.hd.elim fun W z=>z.elim fun X Z=>Z.elim fun m F=>F.elim fun s _=>(b.far I).elim fun f z=>z.elim fun _ _=> ?_;have c:=NV (J:=J) m s;refine I1 (J:=J) I b E B (aD l rfl) fun o r C u x Z d=> ?_;have v:=Qe (by decide) m s f (PU f.n0 f.a C);cases o with
 |none=>
  refine q ah r (yW.of _ _ fun n h=> ?_) u x (re Z) d;have c:=c n (bl h rfl);refine(v n h).elim fun A z=>z.elim fun g j=> ?_;exact aw 12560 [.call c,.sub A,.sub g,.sub j]
 |some t=>
  cases w:a.rd p with
  |none=>rw[w] at d;exact d.elim
  |some k=>
   rw[w] at d q;refine d.elim fun O y=>rT (J:=bF::J) (qs:=[(t,k,O)]) u (av rfl) (fun q L=>bW.mp L▸y) (fun e=>(by cases e)) (ao Z (aD (dc l 51) rfl)) fun T M N P Q S U D=> ?_;rw[show([(t,k,O)]:List (Nat×List Nat×List Nat)).flatMap (·.2.1)=k from c8 k,qm y.nk] at D;refine q (ac T) M (yW.of _ _ fun n h=>((v n h).elim fun A z=>z.elim fun g j=> ?_)) Q (x.trans S) (ao U (b3 Z)) ⟨N,D⟩;have V:cZ (ae (-1)) (.c [ag t])=ac false:=rfl;exact aw 17838352 [.call (c n (bl h rfl)),.sub A,.sub g,.sub j,.has V,.call ((OH (Y:=aF r::bF::J)) n (bl h rfl)),.call (P n (bl h rfl))]
end
noncomputable def g0 (u:Nat):Bool:=u !=6&&u !=7
theorem H7:∀u,u<9→u≠8→u≠5→g0 u=aM (u<5):=fun u h=>q6 (P:=fun u=>u≠8→u≠5→g0 u=aM (u<5)) (by decide) u h
section
theorem Ls (I:aW R) (h:cq R i u):aE 2 174 [.l (an 0),.l (ag i)] (aF R::J) (aA (g0 u)) [] (aF R::J):=yW.of _ _ fun n g=>by
 refine cF h.head fun a x d j w=> ?_;have f:=zP (J:=J) d (.a w) n g;rw[←bD (h.1.symm.trans d),GP u h.2] at f;have N:(i==4)=aM (u=8):=by
  induction e:(i==4) with
  |true=>exact(cu (by cases dL.mp e;exact h.code I.un.1)).symm
  |false=>exact(cP fun E=>by subst E;exact c5.mp e (h.inj I I.un.1)).symm
 have b:(i==5)=aM (u=5):=by
  induction e:(i==5) with
  |true=>exact(cu (by cases dL.mp e;exact h.code I.un.2.1)).symm
  |false=>exact(cP fun E=>by subst E;exact c5.mp e (h.inj I I.un.2.1)).symm
 have k:=h.2;clear h d w j I;by_cases c:u=8
 ·subst c;rw[cu rfl] at N;exact aw 0 [.x N]
 ·rw[cP c] at N;by_cases C:u=5
  ·subst C;rw[cu rfl] at b;exact aw 16 [.x N,.x b]
  ·rw[cP C] at b;refine ak (H7 u k c C) ?_;exact aw 272 [.x N,.x b,.call f]
theorem gh.len (h:gh k):k.length≤9:=by
 have n:k.Nodup:=h.2.1.imp fun h=>hZ h;exact ao (n.length_le_of_subset (l₂:=cv 9) fun x a=>hB.mpr (h.2.2.1 x a)) (a9 gm)
theorem P2:∀l:List Bool,na (l.map aA)=ac (l.all id):=by
 intro l;induction l with
 |nil=>rfl
 |cons b l i=>
  refine((ak (i) ?_):(na (l.map aA)).map _=_);rfl
theorem bH.idn (I:aW R) (h:bH R t k O):O.length≤9∧0<O.length:=⟨ao (h.ids_le I) h.nk.len,((nS _ h.nk.1).elim fun u a=>(ay (h.fr u a) fun i b _=>DA b))⟩
theorem Lb (I:aW R) (h:bH R t k O):aE 3 224 [.l (an 0),.l (ag t)] (aF R::J) (aA (k.all g0)) [] (aF R::J):=yW.of _ _ fun n j=>by
 refine(h.idn I).elim fun m p=> ?_;have e:k.all g0=(O.map fun i=>g0 (g_ R i)).all id:=by
  rw[ji,pD,cH,cH];constructor
  ·refine fun d i b=>ay (h.to i b) fun u a f=> ?_;show g0 (g_ R i)=af;rw[hT f];exact d u a
  ·refine fun d u a=>ay (h.fr u a) fun i b f=> ?_;have:=d i b;rw[←hT f];exact this
 have T:=P2 (O.map fun i=>g0 (g_ R i));have c:=fM (g:=224) [1] 0 56 ag O (fun i=>[aA (g0 (g_ R i))]) [(1,.l (an 0)),(19,.l (ag t)),(23,.l (.j (O.map ag)))] (aF R::J) fun i b=>by
  refine ay (h.to i b) fun u _ a=>ak (hT a) ?_;exact cX 0 [.call (Ls (J:=J) I a n j)]
 rw[←kd] at c;rw[eg] at T;refine ak e ?_;have l:(O.map ag).length≤b4:=by rw[aB];exact aD m rfl
 exact aw 4096 [.call (jx (J:=J) h.pt n (bl j rfl)),.G (ds:=O.map ag) (aB _) (aD m rfl),.y (cu p),.le l,.sub c,.z (o:=.all _) T]
theorem JD (I:aW R) (h:bH R t k O):aE 4 248 [.l (an 1),.l (ag t)] (aF R::bF::J) (aA (k.all g0)) [] (aF R::bF::J):=yW.of _ _ fun n b=>by
 refine bK h.head fun a x d f=> ?_;have c:¬a=18:=fun e=>by subst e;exact aR f (by decide)
 exact aw 0 [.row d,.get (eI (a:=ae a) (x:=x)),.C c,.call (Lb (J:=bF::J) I h n b)]
end
def me (ls:List aK) (p:Nat):Prop:=(∃a∈ls,∃b∈ls,∃k c,a.rd p=ac k∧b.rd p=ac c∧k≠c)∧∃a∈ls,∃k,a.rd p=ac k∧k.all g0=af
section
structure qi (A:Nat→aK) (p:Nat) (R:List aj) (d G:List Nat):Prop where
 nd:G.Nodup
 of:∀x∈G,∃k O,bH R x k O∧∃j∈d,(A j).rd p=ac k
 to:∀j∈d,∀k,(A j).rd p=ac k→∃x∈G,∃O,bH R x k O
theorem qi.none (g:qi A p R d G) (x:bL R r) (h:(A j).rd p=ah):qi A p r (d++[j]) G:=
 ⟨g.nd,fun y b=>(g.of y b).elim fun k z=>z.elim fun O Z=>Z.elim fun f l=>l.elim fun i m=>m.elim fun a n=>⟨k,O,f.mono x,i,cG _ a,n⟩,fun i a k c=>(dD.mp a).elim (fun a=>(g.to i a k c).elim fun y z=>z.elim fun b Z=>Z.elim fun O h=>⟨y,b,O,h.mono x⟩) fun e=>by
  rw[bW.mp e,h] at c;injection c⟩
theorem qi.some (g:qi A p r d G) (x:bL r R) (h:(A j).rd p=ac k) (P:bH R t k O):qi A p R (d++[j]) (gA t G):=
 ⟨vO g.nd,fun y a=>(qW.mp a).elim (fun e=>⟨k,O,e▸P,j,eD _ (cU _),h⟩) fun a=>(g.of y a).elim fun k z=>z.elim fun O Z=>Z.elim fun f l=>l.elim fun i m=>m.elim fun b n=>⟨k,O,f.mono x,i,cG _ b,n⟩,
  fun i b o c=>(dD.mp b).elim (fun b=>(g.to i b o c).elim fun y z=>z.elim fun a Z=>Z.elim fun O h=>⟨y,qW.mpr (aI a),O,h.mono x⟩) fun e=>by
   rw[bW.mp e,h] at c;injection c with c;subst c;exact⟨t,qW.mpr (av rfl),O,P⟩⟩
theorem qi.tells (I:aW t) (g:qi A p t js G):(1<G.length∧0<(G.filter fun x=>(ip t x).all g0).length)↔me (js.map A) p:=by
 constructor
 ·intro z;refine z.elim fun v F=> ?_;constructor
  ·have X:=k1 (rr pB v);refine(g.of _ X).elim fun k Z=>Z.elim fun O d=>d.elim fun P f=>f.elim fun j m=>m.elim fun h r=>(g.of _ (k1 v)).elim fun o Z=>Z.elim fun i d=>d.elim fun q f=>f.elim fun B m=>m.elim fun s R=>⟨_,q' h,_,q' s,k,o,r,R,fun e=> ?_⟩;have e:=bH.uniq I P (e▸q);exact aR e (List.pairwise_iff_getElem.mp g.nd 0 1 _ _ pB)
  ·refine(List.exists_mem_of_length_pos F).elim fun x n=>(c_.mp n).elim fun L C=>(g.of x L).elim fun k Z=>Z.elim fun O d=>d.elim fun P f=>f.elim fun j m=>m.elim fun h r=> ?_;rw[hx I P] at C;exact⟨_,q' h,k,r,C⟩
 ·intro z;refine z.elim fun z M=>z.elim fun a z=>z.elim fun N z=>z.elim fun b z=>z.elim fun Q z=>z.elim fun k z=>z.elim fun o z=>dQ z fun r R S=>M.elim fun c z=>z.elim fun T z=>ay z fun U V u=> ?_;refine ay (cr.mp N) fun j h E=> ?_;refine ay (cr.mp Q) fun B s W=>ay (cr.mp T) fun α β γ=>(g.to j h k (E▸r)).elim fun x Z=>Z.elim fun n d=>d.elim fun O P=>(g.to B s o (W▸R)).elim fun y Z=>Z.elim fun D d=>d.elim fun i q=>(g.to α β U (γ▸V)).elim fun z Z=>Z.elim fun δ d=>d.elim fun ζ ε=> ?_;refine⟨f' fun l=>S ?_,DA (c_.mpr ⟨δ,by rw[hx I ε];exact u⟩)⟩;refine(List.length_eq_one_iff.mp (e8 l (DA n))).elim fun w e=> ?_;rw[e] at n D;exact(mL I P ((bW.mp n).trans (bW.mp D).symm▸q)).1
theorem Il (I:aW R) {js:List Nat} (β:∀j∈js,cg R j (A j)∧(A j).els.length≤50) (γ:p<3) (B:js.length≤1000) (δ:R.length+52*js.length≤890000)
  {G:Prop} (q:∀u b,aE 14 249 [.l (an 1),.l (.c (js.map ag)),.l (dG p)] (aF R::bF::J) (aA b) [] (aF u::bF::J)→aW u→bL R u→u.length≤R.length+52*js.length→(b=af↔me (js.map A) p)→G):G:=by
 refine kR (N:=(13≤·)) (g:=249) (b:=ah) [1] ag js (fun x:List Nat×List aj=>[(34,.l (an 1)),(23,.l (.c (js.map ag))),(50,.l (dG p)),(56,bE (.e (b8 x.1)))]) (fun x=>aF x.2::bF::J)
  (fun d x=>aW x.2∧bL R x.2∧x.2.length≤R.length+52*d.length∧x.1.length≤d.length∧qi A p x.2 d x.1) ([],R) ⟨I,.f,bv _,bv _,h7,(fun _ h=>nomatch h),fun _ h=>nomatch h⟩ rfl
  (fun D j ι x e y κ q=> ?_) fun x y w=> ?_
 ·refine jc y fun m X Z z g=>(β j (eO e)).elim fun a ε=> ?_;have E:D.length+1≤js.length:=by rw[e,bi];exact ci (b3 (cA _)) _
  have M:∀{r:List aj},r.length≤x.2.length+52→r.length≤R.length+52*(D++[j]).length:=fun h=>by
   rw[bi];exact ao h (dc Z 52)
  refine Ld (J:=J) m (a.mono X) ε γ (ao Z (ao (ci (fh 52 (kg E)) _) δ)) fun o r C Q v S d=> ?_;induction s:(A j).rd p with
  |none=>
   induction o with
   |some t=>rw[s] at d;exact d.elim
   |none=>
    refine q (x.1,r) (kG Q (X.trans v) (M S) (ao z (by rw[bi];exact fQ _)) (g.none v s)) rfl fun n f=> ?_;have C:=C n f;exact bq 0 [.call C]
  |some k=>
   induction o with
   |none=>rw[s] at d;exact d.elim
   |some t=>
    rw[s] at d;refine d.elim fun O P=>q (gA t x.1,r) (kG Q (X.trans v) (M S) (?_) (g.some v s P)) rfl fun n f=> ?_
    ·rw[bi];refine ao ?_ (b3 z);unfold gA;split
     ·exact fQ _
     ·exact ak bi (bv _)
    ·have C:=C n f;exact bq 0 [.call C,.J (i:=t) (j:=0) rfl,.set (pZ (i:=t) (ao z (ao (kg E) (aD B rfl))))]
 ·refine jc y fun m X Z z g=> ?_;have z:=ao z B;have l (n:Nat) (f:13≤n):=fM (g:=249) [2] 0 59 ag x.1 (fun t=>if(ip x.2 t).all g0 then[ag t] else[]) [(34,.l (an 1)),(23,.l (.c (js.map ag))),(50,.l (dG p)),(56,.l (.e (b8 x.1)))] (aF x.2::bF::J) fun t ζ=>by
   refine bK (g.of t ζ) fun k O h _=> ?_;have U:=JD (J:=J) m h n (bl f rfl);refine ak (hx m h) ?_;cases η:k.all g0<;>rw[η] at U<;>exact cX 0 [.call (kP (t:=t) (Y:=aF x.2::bF::J) n (bl f rfl)),.call U]
  have V:(b8 x.1).map (·.1)=x.1.map ag:=eg ..;simp only[nI,←V] at l;have L:=hY (fun t=>(ip x.2 t).all g0) x.1;have T:=g.tells m;generalize μ:x.1.filter (fun t=>(ip x.2 t).all g0)=F at l L T;have W:(pS (.e (b8 x.1))).e=ac (ag x.1.length):=by
   show(if(b8 x.1).length≤_ then ac (ae ((b8 x.1).length:Nat)) else ah)=_
   rw[Co,aJ (aD z rfl)]
  have α:((b8 x.1).map (·.1)).length≤b4:=by rw[V,aB];exact aD z rfl
  have θ:F.length≤16777216:=ao L (aD z rfl);refine q x.2 (aM (1<x.1.length)&&aM (0<F.length)) (yW.of _ _ fun n f=> ?_) m X Z (by rw[fu,n6,n6];exact T);have w:=w n f;have l:=l n f;cases c:aM (1<x.1.length)
  ·exact aw 0 [.sub w,.le α,.sub l,.F W,.y c]
  ·cases d:aM (0<F.length)<;>exact aw 1048576 [.sub w,.le α,.sub l,.F W,.y c,.p (ds:=F.map ag) (aB _) θ,.y d]
theorem OZ {m:bh} (h:aE k 249 [.l (an 1),.l x,.l (dG p)] (m.st R) (aA b) [] (m.st r)):aE (k+2) 253 [.l (an 2),.l x,.l (dG p)] (m.st R) (aA b) [] (m.st r):=by
 have c:aE (k+1) 7080 [.l (an 6),.l (an 2),.l x,.l (dG p)] (m.st R) (aA b) [] (m.st r):=yW.of _ _ fun n a=>by
  exact aw 0 [.call (h n a)]
 exact yW.of _ _ fun n a=>by exact aw 3 [.call (c n a)]
end
theorem bH.len_eq (I:aW R) (h:bH R t k O):O.length=k.length:=by
 refine e8 (h.ids_le I) ?_;have n:k.Nodup:=h.nk.2.1.imp fun h=>hZ h;have:=n.length_le_of_subset (l₂:=O.map (g_ R)) fun x a=>by
  exact ay (h.cod_mem.mp a) fun j b e=>cr.mpr ⟨j,b,e⟩
 simpa using this
noncomputable def jZ (a:aK) (ls:List aK) (p:Nat):Bool:=by classical exact aM (1<((a.hs[p]?).getD []).length∧me ls p)
theorem nM:jZ a ls p=af↔1<((a.hs[p]?).getD []).length∧me ls p:=by unfold jZ;simp
noncomputable def gf (a:aK) (ls:List aK):List Nat:=(cv a.hs.length).filter (jZ a ls)
noncomputable def kF (q:Nat×List Nat):aj:=.j [ag q.1,.j (q.2.map ag)]
theorem GH {a:aK} (o:a.Ok) (h:a.els[i]? =ac q):q.2=0∧i<a.hs.length∧a.hs[i]? =ac q.1∨(a.hs.length≤i∧(i=a.hs.length→q.2≠0)):=by
 by_cases c:i<a.hs.length
 ·have:=(oK o).1 i c;rw[h,cS c] at this;simp only[lN,nW] at this;subst this;exact av ⟨rfl,c,cS c⟩
 ·refine aI ⟨cD (.c 1 .b .f (.g 1 .b .f)) rfl (dC c),fun e=> ?_⟩;have l:i<a.els.length:=by
   rcases Ew i a.els.length with b|b
   ·exact b
   ·rw[List.getElem?_eq_none b] at h;injection h
  refine iD (oK o) fun _ f g _=> ?_;by_cases d:a.os=[]
  ·by_cases r:a.rs=[]
   ·have t:=gl fun q=>o.ts q r;rw[nc,d,r,t] at l;simp at l;lia
   ·have:=g r;rw[show a.fr=i by unfold aK.fr;rw[d,e];rfl,h] at this;injection this with this;subst this;simp
  ·have:=f 0 (jf.mpr d);rw[Ez,←e,h] at this;injection this with this;subst this;simp
noncomputable def bh.tl (m:bh):ar:=m.rest.tail
structure hv (R:List aj) (a:aK) (ls:List aK) (d:Nat) (s:List (Nat×List Nat)):Prop where
 b:s.map (·.1)=(cv d).filter (jZ a ls)
 ids:∀q∈s,∃t k,a.hs[q.1]? =ac k∧bH R t k q.2
theorem hv.mono (x:bL R r) (h:hv R a ls d s):hv r a ls d s:=⟨h.b,fun q c=>(h.ids q c).elim fun t z=>z.elim fun k Z=>Z.elim fun e f=>⟨t,k,e,f.mono x⟩⟩
theorem hv.yes (h:hv R a ls d s) (e:jZ a ls d=af) {O:List Nat} (f:a.hs[d]? =ac k) (p:bH R t k O):hv R a ls (d+1) (s++[(d,O)]):=by
 refine⟨by rw[cm,h.b,x_,pv];simp[e],fun q c=> ?_⟩;rcases dD.mp c with c|c
 ·exact h.ids q c
 ·rw[List.mem_singleton.mp c];exact⟨t,k,f,p⟩
theorem hv.no (h:hv R a ls d s) (c:jZ a ls d=ai):hv R a ls (d+1) s:=
 ⟨by rw[h.b,x_,pv];simp[c],h.ids⟩
theorem tc {E:List c} (e:E.zipIdx=d++j::r1):j.2=d.length∧E[j.2]? =ac j.1∧d.length<E.length:=by
 have h:E.zipIdx[d.length]? =ac j:=by rw[e,jE (bv _),pE];rfl
 rw[Rs] at h;refine(dg.mp h).elim fun x z=>z.elim fun a b=> ?_;refine ak (cB b) ?_;refine⟨jI _, ?_,(hy.mp a).1⟩;rw[jI];exact a
noncomputable def s3 (E:List (Nat×Nat)) (ro:Nat) (js:List Nat) (s:List (Nat×List Nat)):au:=[(27,.l (an 2)),(20,.l (.j [ae 12,.j (bf E),ag ro])),(23,.l (.c (js.map ag))),(34,.l (an 1)),(13,bE (.c (s.map kF)))]
structure E1 (R:List aj) (a:aK) (ls:List aK) (z d:Nat) (x:List (Nat×List Nat)×List aj):Prop where
 I:aW x.2
 ex:bL R x.2
 z:x.2.length≤R.length+d*z
 l:d≤a.hs.length
 so:hv x.2 a ls d x.1
theorem K2 (h:i<3):(rI (ag i)).e=ac (dG i):=mj (P:=fun i=>(rI (ag i)).e=ac (dG i)) rfl rfl rfl h
section
variable{m:bh}
abbrev wX (n ro:Nat) (E:List (Nat×Nat)) (js:List Nat) (i:Nat) (s:List (Nat×List Nat)) (Y:ar) (f:cR) (S:List (Nat×List Nat)) (st':ar):Prop:=fc n 255 [2] (he (s3 E ro js [])) (ag i) (s3 E ro js s) Y f (s3 E ro js S) st'
theorem Hz (h:1≤n) (q:E[i]? =ac (w,mk)) (a:mk≠0):wX n ro E js i s (m.st R) .o s (m.st R):=by
 exact bq 1 [.get (nw (hS q)),.call (kP (t:=w) (Y:=m.st R) n h),.M (c5.mpr a)]
theorem NZ (a:1≤n) (q:E[i]? =ac (w,0)) (p:gY R w O) (l:O.length≤1000) (h:¬1<O.length):wX n ro E js i s (m.st R) a' s (m.st R):=by
 have c:aZ n 165 [.l (an 0),.l (ag w)] (m.st R) (.j (O.map ag)) [] (m.st R):=jx p n a;exact bq 257 [.get (nw (hS q)),.call (kP (t:=w) (Y:=m.st R) n a),.call c,.G (ds:=O.map ag) (aB _) (aD l rfl),.y (cP h)]
theorem PJ (d:1≤n) (f:i<3) (q:E[i]? =ac (w,0)) (p:gY R w O) (P:gY r w O) (l:O.length≤1000) (h:1<O.length) (j:s.length≤1000)
  (c:aZ n 253 [.l (an 2),.l (.c (js.map ag)),.l (dG i)] (m.st R) (aA b) [] (m.st r)):wX n ro E js i s (m.st R) a' (if b then s++[(i,O)] else s) (m.st r):=by
 have C:=kP (t:=w) (Y:=m.st R) n d;have g:=nw (hS q);have e:aZ n 165 [.l (an 0),.l (ag w)] (m.st R) (.j (O.map ag)) [] (m.st R):=jx p n d;have k:aZ n 165 [.l (an 0),.l (ag w)] (m.st r) (.j (O.map ag)) [] (m.st r):=jx P n d;have S:=K2 f;induction b with
 |false=>exact bq 257 [.get g,.call C,.call e,.G (ds:=O.map ag) (aB _) (aD l rfl),.y (cu h),.F S,.call c]
 |true=>
  have a:fL 3 (.c (s.map kF)) [.j [ag i,.j (O.map ag)]]=ac (a4,.c ((s++[(i,O)]).map kF)):=by
   refine ak cm ?_;exact aJ (by rw[aB];exact aD j rfl)
  exact bq 268435713 [.get g,.call C,.call e,.G (ds:=O.map ag) (aB _) (aD l rfl),.y (cu h),.F S,.call c,.call k,.u a]
end
theorem JS {m:bh} {R:List aj} (I:aW R) (o:a.Ok) (γ:b6 R E a.els) (ξ:E.length≤50) (B:a.hs.length≤3) {js:List Nat} (δ:∀j∈js,cg R j (A j)∧(A j).els.length≤50) (ο:js.length≤1000) (π:R.length+3*(52*js.length)≤890000)
  {G:Prop} (q:∀r s,aE 18 255 [.l (an 2),.l (.j [ae 12,.j (bf E),ag a.c]),.l (.c (js.map ag))] (m.st R) (.c (s.map kF)) [] (m.st r)→aW r→bL R r→r.length≤R.length+3*(52*js.length)→hv r a (js.map A) a.hs.length s→G):G:=by
 have ε:E.length≤100000:=aD ξ rfl;have ρ:a.hs.length≤E.length:=by rw[l2 γ.marks,ev,ev];exact bu _ _
 have f {d:Nat} {x:List (Nat×List Nat)×List aj} (h:E1 R a (js.map A) (52*js.length) d x) (e:d=a.hs.length):aW x.2∧bL R x.2∧x.2.length≤R.length+3*(52*js.length)∧hv x.2 a (js.map A) a.hs.length x.1:=
  ⟨h.I,h.ex,ao h.z (ci (pq _ (e▸B)) _),e▸h.so⟩
 refine qF (N:=(17≤·)) (g:=255) (b:=ah) [2] (fun p=>ag p.2) E.zipIdx (fun x:List (Nat×List Nat)×List aj=>s3 E a.c js x.1) (fun x=>m.st x.2) (fun d=>E1 R a (js.map A) (52*js.length) d.length)
  (fun F x=>F=a'∧aW x.2∧bL R x.2∧x.2.length≤R.length+3*(52*js.length)∧hv x.2 a (js.map A) a.hs.length x.1) ([],R) ⟨I,.f,bu _ _,cA _,rfl,fun _ h=>nomatch h⟩ rfl
  (fun D j a₄ x e t a₅ Q σ=> ?_) (fun x h=>⟨rfl,f h (e8 h.l (by rw[pu];exact ρ))⟩) fun F x h w=> ?_
 ·refine dQ (tc e) fun y T a₆=>(γ.at T).elim fun k z=>z.elim fun O Z=>Z.elim fun L τ=> ?_;have u {n:Nat} (v:17≤n):1≤n:=bl v rfl;rcases GH o L with⟨U,ζ,V⟩|⟨υ,φ⟩
  ·have U:=U;have η:E[j.2]? =some (j.1.1,0):=U▸T;have θ:=Nat.lt_of_lt_of_le ζ B;have P:=τ.mono t.ex;have ι:=P.len_eq t.I;have κ:O.length≤1000:=aD (P.idn t.I).1 rfl;have W:=y▸ζ;have l:(D++[j]).length=D.length+1:=by rw[List.length_append];rfl
   have α:x.2.length+52*js.length≤R.length+(D.length+1)*(52*js.length):=Nat.le_trans (Nat.add_le_add_right t.z _) (Nat.le_of_eq (by rw[Nat.add_assoc,Nat.add_mul D.length 1,Nat.one_mul]));by_cases C:1<k.length
   ·refine Il (J:=m.tl) t.I (fun i μ=>⟨(δ i μ).1.mono t.ex,(δ i μ).2⟩) θ ο (Nat.le_trans α (Nat.le_trans (Nat.add_le_add_left (Nat.mul_le_mul_right _ (Nat.le_trans W B)) _) π)) fun χ b c ψ X β ω=> ?_;have S:jZ a (js.map A) D.length=b:=by
     rw[ji,nM,ω,←y,V];exact⟨fun h=>h.2,fun h=>⟨C,h⟩⟩
    refine Q (if b then x.1++[(j.2,O)] else x.1,χ) ?_ rfl fun n v=>PJ (u v) θ η P.pt (P.mono X).pt κ (ι▸C) ?_ ((OZ c) n (bl v rfl))
    ·refine ak l (⟨ψ,t.ex.trans X,ao β α,W,(ak y ?_)⟩);induction b with
     |true=>exact(t.so.mono X).yes S (y▸V) (P.mono X)
     |false=>exact(t.so.mono X).no S
    ·have:=aS gK t.so.b;rw[aB] at this;exact this▸ao (hY _ _) (by refine ak gm ?_;exact ao t.l (aD B rfl))
   ·refine Q x (ak l (⟨t.I,t.ex,ao (bu _ _) α,W,t.so.no (nV.mpr fun h=>C ?_)⟩)) rfl fun n v=>NZ (u v) η P.pt κ (ι▸C);rw[nM,←y,V] at h;exact h.1
  ·have ν:=e8 t.l (y▸υ);exact σ .o x ⟨rfl,f t ν⟩ rfl fun n v=>Hz (u v) T (φ (y.trans ν))
 ·refine h.elim fun e z=>z.elim fun a₀ Z=>Z.elim fun a₁ β=>β.elim fun a₂ a₃=> ?_;rw[←lj] at w;refine q x.2 x.1 (yW.of _ _ fun n v=> ?_) a₀ a₁ a₂ a₃;have w:=w n v;rw[e] at w;exact aw 1 [.G ed (aD ε rfl),.le ε,.sub w]
noncomputable def hh (c:List (Nat×Nat)):List (aj×aj):=c.map fun p=>(ag p.1,ag p.2)
noncomputable def eK (c:List (Nat×Nat)):aj:=.e (hh c)
noncomputable def fD (p:Nat) (O:List Nat) (acc:List (List (Nat×Nat))):List (List (Nat×Nat)):=acc.flatMap fun c=>O.map fun i=>c++[(p,i)]
noncomputable def dP:List (Nat×List Nat)→List (List (Nat×Nat))→List (List (Nat×Nat))
 |[],a=>a
 |q::r,a=>if 25<(fD q.1 q.2 a).length then[] else dP r (fD q.1 q.2 a)
theorem Ij (c:List (Nat×Nat)):((hh c).all fun p=>j9 p.1)=true:=by unfold hh;refine ak pD ?_;exact cH.mpr fun _ _=>rfl
theorem Oo:∀{c:List (Nat×Nat)},p∉c.map (·.1)→gd (ag p) (ag i) (hh c)=hh (c++[(p,i)]):=by
 intro c;induction c with
 |nil=>
  intro _;rfl
 |cons q c I=>
  intro h;simp only[eE,eS,not_or] at h;show(if aj.beq (ag q.1) (ag p)=af then _ else(ag q.1,ag q.2)::gd (ag p) (ag i) (hh c))=_
  rw[my,aL (by simp;exact fun e=>h.1 e.symm),I h.2];rfl
theorem Bs:cT (ag i) (hh c)=true:=by
 induction c using cn<;>rfl
theorem Om (h:p∉c.map (·.1)) (l:c.length≤1000000):gT (.e (hh c)) (ag p) (ag i)=ac (.e (hh (c++[(p,i)]))):=by
 show(if cT _ _∧(hh c).length≤b4 then ac (b0.e (gd _ _ _)) else ah)=_
 rw[aJ ⟨Bs,by unfold hh;rw[aB];exact l⟩,Oo h]
theorem M6:fD p O (d++[c])=fD p O d++O.map fun i=>c++[(p,i)]:=by
 unfold fD;rw[DN,DC]
theorem vi:∀{d:List (List (Nat×Nat))},(fD p O d).length=d.length*O.length:=by
 intro d;induction d with
 |nil=>exact(Es _).symm
 |cons c d i=>
  show(List.flatMap _ (c::d)).length=_;rw[D0,bi,aB,mY,uk,ru,f_];exact aS (·+_) i
noncomputable def pb (A B:aj) (p:Nat) (O:List Nat) (X:List (List (Nat×Nat))):au:=[(58,.l A),(18,.l B),(50,.l (ag p)),(59,.l (.j (O.map ag))),(60,bE (.c (X.map eK)))]
section
theorem KW (k:p∉c.map (·.1)) (a:c.length≤1000) (j:X.length+O.length≤1000000):
  ca bw (aZ n) (dR 254 [1,1,0] ah (O.map ag) (pb A B p O X++[(20,.l (eK c))]) Y) a' (pb A B p O (X++O.map fun i=>c++[(p,i)])++[(20,.l (eK c))]) Y:=by
 obtain⟨x,h,w⟩:=hr (n:=n) (g:=254) (b:=ah) [1,1,0] ag O (fun d (_:Unit)=>pb A B p O (X++d.map fun i=>c++[(p,i)])++[(20,.l (eK c))]) (fun _ _=>Y) (fun _ _=>True) () trivial rfl fun D i r x e _=>⟨(),a',trivial,av rfl,by
  have l:(X++D.map fun i=>c++[(p,i)]).length≤1000000:=by
   rw[bi,aB];refine ao (ci ?_ _) j;rw[e,bi];exact bu _ _
  have m:fL 3 (.c ((X++D.map fun i=>c++[(p,i)]).map eK)) [.e (hh (c++[(p,i)]))]=ac (a4,.c ((X++(D++[i]).map fun i=>c++[(p,i)]).map eK)):=by
   rw[cm (f:=fun i=>c++[(p,i)]),←ef,cm (l₁:=X++_)];exact aJ (by rw[aB];exact l)
  exact bq 0 [.z (o:=.c (hh c)) (aS ac (Ij c)),.set (Om (i:=i) k (aD a rfl)),.u m],rfl⟩
 rw[SE,c8] at w;exact w
theorem Jo (k:∀c∈acc,p∉c.map (·.1)∧c.length≤1000) (l:acc.length≤25) (i:O.length≤1000):
  ca bw (aZ n) (dR 254 [1,1] ah (acc.map eK) (pb A B p O []) Y) a' (pb A B p O (fD p O acc)) Y:=by
 obtain⟨x,h,w⟩:=hr (g:=254) (b:=ah) [1,1] eK acc (fun d (_:Unit)=>pb A B p O (fD p O d)) (fun _ _=>Y) (fun _ _=>True) () trivial rfl fun D c r x e _=>⟨(),a',trivial,av rfl,by
  have a:=k c (eO e);have f:(fD p O D).length+O.length≤1000000:=by
   rw[vi];refine ao (dd (k2 (ao ?_ l) i) i) (show 25*1000+1000≤1000000 by decide);rw[e,bi];exact bu _ _
  have w:=KW (n:=n) (Y:=Y) (A:=A) (B:=B) a.1 a.2 f;rw[←M6] at w;exact bq 0 [.sub w],rfl⟩
 exact w
structure S2 (s d:List (Nat×List Nat)) (x:List (List (Nat×Nat))×Bool):Prop where
 e:∀r,s=d++r→dP s [[]]=dP r x.1
 l:x.1.length≤25
 k:∀c∈x.1,c.map (·.1)=d.map (·.1)
end
theorem Fh (F:s.length≤1000) (p:∀q∈s,q.2.length≤1000) (d:(s.map (·.1)).Nodup):aE 1 254 [.l (.c (s.map kF))] Y (.c ((dP s [[]]).map eK)) [] Y:=yW.of _ _ fun n k=>by
 refine qF (N:=(·=n)) (g:=254) (b:=ah) [1] kF s (fun x:List (List (Nat×Nat))×Bool=>[(58,.l (.c (s.map kF))),(18,jP x.2 (.c (x.1.map eK)))]) (fun _=>Y) (S2 s)
  (fun f x=>f=.h (.c [])∧dP s [[]]=[]∨f=a'∧dP s [[]]=x.1) ([[]],af) ⟨fun r e=>e▸rfl,by decide,fun c h=>bW.mp h▸rfl⟩ rfl
  (fun D q R x e a M Q t=> ?_) (fun x h=>aI ⟨rfl,h.e [] (c8 _).symm⟩) fun f x h w=> ?_
 ·have v:=p q (eO e);have u:=fun m=>by
   rw[e,cm,ke] at d;exact d.2.2 q.1 m q.1 (cU _) rfl
  have l:=Jo (n:=n) (Y:=Y) (A:=.c (s.map kF)) (B:=.c (x.1.map eK)) (fun c o=>⟨a.k c o▸u,by rw[←aB,a.k c o,aB];exact(ao (by rw[e,bi];exact bu _ _) F)⟩) a.l v;have E:dP s [[]]=if 25<(fD q.1 q.2 x.1).length then[] else dP R (fD q.1 q.2 x.1):=a.e _ e
  have z:(fD q.1 q.2 x.1).length≤16777216:=by rw[vi];exact aD (k2 a.l v) rfl
  by_cases j:25<(fD q.1 q.2 x.1).length
  ·refine t (.h (.c [])) (x.1,ai) (av ⟨rfl,E.trans (aJ j)⟩) rfl fun _ k=> ?_;subst k;have c:=cu j;clear Q t a E j e p d u;obtain⟨x,b⟩:=x;induction b<;>exact bq 0 [.sub l,.p (ds:=(fD q.1 q.2 x).map eK) (aB _) z,.y c]
  ·refine Q (fD q.1 q.2 x.1,ai) ⟨fun r y=> ?_,dC j,fun c o=> ?_⟩ rfl fun _ k=> ?_
   ·rw[E,aL j];rw[e,ef] at y;exact(aS (dP · _) (rn (Du y)).2)
   ·refine ay (pz.mp o) fun C G I=>ay (cr.mp I) fun i _ L=> ?_;rw[←L,cm,cm,a.k C G];rfl
   ·subst k;have c:=cP j;clear Q t a E j e p d u;obtain⟨x,b⟩:=x;induction b<;>exact bq 0 [.sub l,.p (ds:=(fD q.1 q.2 x).map eK) (aB _) z,.y c]
 ·have w:=w n rfl;obtain⟨x,b⟩:=x;rcases h with⟨e,h⟩|⟨e,h⟩<;>rw[e] at w<;>refine ak h ?_
  ·exact aw 0 [.sub w]
  ·induction b<;>exact aw 0 [.sub w]
theorem Jg {a:aK} (o:a.Ok) {i:Nat} (h:a.els[i]? =ac q):(q.2=0∧i<a.hs.length)∨(q.2=1∧a.hs.length≤i∧i<a.fr)∨(q.2=2∧i=a.fr∧a.rs≠[])∨(q.2=0∧a.fr<i∧a.ts≠[]):=by
 refine iD (oK o) fun g j k m=> ?_;have l:i<a.els.length:=by
  rcases Ew i a.els.length with d|d
  ·exact d
  ·rw[List.getElem?_eq_none d] at h;injection h
 have l:=nc▸l;have n:=o.rs;unfold aK.fr at*;by_cases c:i<a.hs.length
 ·rw[g i c] at h;injection h with h;subst h;exact .inl ⟨rfl,c⟩
 by_cases C:i<a.hs.length+a.os.length
 ·have:=j (i-a.hs.length) (b7 (.c 1 (.a .b .n1) (.a .f .g) (.c 1 (.a .j .f) .b (.g 1 (.a .j .n1) .g))) rfl C (Nat.le_of_eq (Nat.sub_add_cancel (Nat.le_of_not_lt c))));rw[show a.hs.length+(i-a.hs.length)=i by exact Nat.le_antisymm (b5 (.c 1 (.a .b .f) .g (.g 1 (.a .f .b) .g)) rfl (Nat.le_of_eq (Nat.sub_add_cancel (Nat.le_of_not_lt c)))) (b5 (.c 1 .b (.a .f .g) (.g 1 .b (.a .g .f))) rfl (Nat.sub_le_iff_le_add.mp (Nat.le_refl (i-(a.hs.length))))),h] at this;injection this with this;subst this;exact .inr (.inl (fg rfl (cD (.c 1 .b .f (.g 1 .b .f)) rfl (Nat.le_of_not_lt c)) C))
 have r:a.rs≠[]:=fun e=>by
  rw[e,(gl fun q=>o.ts q e)] at l;simp at l;exact kY 0 (b5 (.c 1 (.a .b .n1) (.a .f .g) (.c 1 (.a .f .g) .b (.g 1 .n1 .n0))) rfl l (dC C))
 by_cases f:i=a.hs.length+a.os.length
 ·have:=k r;rw[←f,h] at this;injection this with this;subst this;exact aI (aI (av (fg rfl f r)))
 ·have p:=jf.mpr r;have b:a.hs.length+a.os.length+1≤i:=rb (dC C) fun e=>f e.symm;have l:i<a.hs.length+a.os.length+1+a.ts.length:=ft l (dc (ci n _) _);have:=m (i-(a.hs.length+a.os.length+1)) (tT b l);rw[ra b,h] at this;injection this with this;subst this;exact aI (aI (aI (fg rfl b fun e=>e7 b (by rw[e] at l;exact l))))
theorem p7 {a:aK} (o:a.Ok) {E:List (Nat×Nat)} (d:E.map (·.2)=a.els.map (·.2)) (h:E[i]? =ac q):(q.2=0∧i<a.hs.length)∨(q.2=1∧a.hs.length≤i∧i<a.fr)∨(q.2=2∧i=a.fr∧a.rs≠[])∨(q.2=0∧a.fr<i∧a.ts≠[]):=by
 have b:=aS (fun l:List Nat=>l[i]?) d;simp only[dX,h,n5] at b;induction c:a.els[i]?with
 |none=>have b:=c▸b;injection b
 |some p=>
  have b:=c▸b;have:q.2=p.2:=by simpa using b
  exact ak this (Jg o c)
noncomputable def oH (S:List Nat) (v:Int) (p:(Nat×Nat)×Nat):Int:=if S.contains p.1.2 then jU p.2 else v
noncomputable def o9 (S:List Nat) (E:List (Nat×Nat)):Int:=E.zipIdx.foldl (oH S) (-1)
theorem vl:o9 S E= -1∨∃(i:Nat) (q:Nat×Nat),o9 S E=(i:Int)∧E[i]? =ac q∧q.2∈S:=by
 have h:∀(l:List ((Nat×Nat)×Nat)) (v:Int),l.foldl (oH S) v=v∨∃p∈l,l.foldl (oH S) v=jU p.2∧p.1.2∈S:=fun l=>by
  induction l with
  |nil=>exact fun v=>av rfl
  |cons p l I=>
   intro v;rcases I (oH S v p) with h|⟨P,a,b⟩
   ·by_cases c:S.contains p.1.2=true
    ·exact .inr (g2 p (.head _) (h.trans (if_pos c)) (List.contains_iff_mem.mp c))
    ·exact .inl (h.trans (if_neg c))
   ·exact .inr (bd P (.tail _ a) b)
 rcases h E.zipIdx (-1) with h|⟨p,a,b,d⟩
 ·exact .inl h
 ·exact .inr ⟨p.2,p.1,b,nH a,d⟩
section
variable{E:List (Nat×Nat)}
theorem u5 (h:E.length≤100000):aE 1 161 [.l (.c (bf E)),.l (.j (S.map ag))] Y (ae (o9 S E)) [] Y:=yW.of _ _ fun n d=>by
 have l:=(qt (n:=n) (g:=161) (b:=ah) [1] (fun p=>ag p.2) E.zipIdx (oH S) (fun v=>[(8,.l (.c (bf E))),(9,.l (.j (S.map ag))),(10,.l (ae v))]) (fun _=>Y) (fun _=>True) (-1) trivial rfl fun v _ j a=>⟨trivial,a',av rfl,by
  have g:=qD (i:=j.1.2) (O:=S);unfold oH;cases c:S.contains j.1.2<;>rw[c] at g<;>exact bq 16 [.row (hS (nH a)),.has g],rfl⟩).2
 rw[←lj] at l;exact aw 0 [.p ed (aD h rfl),.le h,.sub l]
theorem yY {r1:List ((Nat×Nat)×Nat)} {j:(Nat×Nat)×Nat}:(d++[j]).map (·.1)=d.map (·.1)++[j.1]:=cm
theorem Kw (e:E.zipIdx=d++r1):(d.map (·.1)).length≤E.length:=by
 rw[aB,←pu (l:=E),e,bi];exact bu _ _
theorem EW (l:E.length≤100000) (o:∀(i:Nat) (q:Nat×Nat),E[i]? =ac q→q.2=1→¬(i:Int)<o9 [0] E):aE 2 162 [.l (an 0),.l (.c (bf E))] Y (.c (bf E)) [] Y:=yW.of _ _ fun n k=>by
 have C:=u5 (S:=[0]) (Y:=Y) l n k;generalize o9 [0] E=v at C o;obtain⟨x,h,L⟩:=hr (n:=n) (g:=162) (b:=ah) [2] (fun p=>ag p.2) E.zipIdx (fun d (_:Unit)=>[(1,.l (an 0)),(8,.l (.c (bf E))),(12,.l (ae v)),(13,bE (.c (bf (d.map (·.1)))))]) (fun _ _=>Y) (fun _ _=>True) () trivial rfl fun D j r1 x e _=>⟨(),a',trivial,av rfl,by
  refine dQ (tc e) fun _ f _=> ?_;have h:=hS f;have a:fL 3 (.c (bf (D.map (·.1)))) [.j [ag j.1.1,ag j.1.2]]=ac (a4,.c (bf ((D++[j]).map (·.1)))):=by
   unfold bf;refine ak (yY (r1:=r1)) (ak cm ?_);exact aJ (by rw[aB];exact ao (Kw e) (aD l rfl))
  induction c:(j.1.2==1) with
  |true=>
   exact bq 0 [.row h,.x c,.H ((o j.2 j.1 f) (dL.mp c)),.u a]
  |false=>exact bq 0 [.row h,.x c,.u a],rfl⟩
 rw[xW,←lj] at L;exact aw 0 [.call C,.p ed (aD l rfl),.le l,.sub L]
theorem P':gw (E++[q])=if gw E<0 then(if 2≤q.2 then(E.length:Int) else-1) else gw E:=by
 unfold gw en;refine ak (List.findIdx?_append) ?_;induction h:E.findIdx? fun p=>aM (2≤p.2) with
 |some i=>exact(aL (hD.mpr (gG i))).symm
 |none=>
  by_cases c:2≤q.2
  ·simp[c]
  ·simp[c]
theorem Gq (h:gw E<0):gw E= -1:=by
 unfold gw at h⊢;induction e:en E with
 |some i=>rw[e] at h;exact aR h (hD.mpr (gG i))
 |none=>rfl
theorem PN (l:E.length≤100000) (i:∀q∈E,q.2<3) (k:gw E<0∨v≤gw E):aE 1 163 [.l (an 0),.l (.c (bf E)),.l (ae v)] Y (.c (bf E)) [] Y:=yW.of _ _ fun n t=>by
 obtain⟨x,h,L⟩:=hr (n:=n) (g:=163) (b:=ah) [1] (fun p=>ag p.2) E.zipIdx (fun d (_:Unit)=>[(1,.l (an 0)),(8,.l (.c (bf E))),(12,.l (ae v)),(16,.l (ae (gw (d.map (·.1)))))]) (fun _ _=>Y) (fun _ _=>True) () trivial rfl fun D j r1 x e _=>⟨(),a',trivial,av rfl,by
  refine dQ (tc e) fun m f _=> ?_;have h:=hS f;have s:=P' (E:=D.map (·.1)) (q:=j.1);rw[aB,←m] at s;refine ak (yY (r1:=r1)) (ak s ?_);have a:=Gq (E:=D.map (·.1));generalize gw (D.map (·.1))=o at a;by_cases c:o<0
  ·have a:=a c;subst a;refine ak (aJ c) ?_;induction C:(j.1.2==2) with
   |true=>
    refine ak (aJ (a9 (dL.mp C).symm)) ?_;exact bq 17 [.row h,.x C]
   |false=>
    refine ak (aL fun r=>c5.mp C (e8 (iW (i j.1 (eR f))) r)) ?_;exact bq 17 [.row h,.x C]
  ·refine ak (aL c) ?_;exact bq 0 [.H c],rfl⟩
 rw[xW,←lj] at L;by_cases c:gw E<0
 ·exact aw 0 [.p ed (aD l rfl),.le l,.sub L,.Q c]
 ·exact aw 0 [.p ed (aD l rfl),.le l,.sub L,.H c,.Z (k.resolve_left c)]
theorem E3:lF (.j [ae 12,.j (bf E),ag r]):=by
 refine⟨?_,rfl⟩;have h:(bf E).all (aj.key 6)=true:=by unfold bf;rw[pD,cH];exact fun _ _=>rfl
 refine((ak h ?_):(af&&((bf E).all (aj.key 6)&&(af&&af)))=af);rfl
theorem CZ (I:aW R) {a:aK} (o:a.Ok) (p:E.map (·.2)=a.els.map (·.2)) (f:0<a.fr) (Z:E.length≤50) {r:Nat} (β:R.length≤900000)
  {G:Prop} (q:∀t d,aE 4 164 [.l (an 0),.l (.c (bf E)),.l (ag r)] (aF R::J) (ag t) [] (aF d::J)→aW d→bL R d→d.length≤R.length+1→d[t]? =ac (.j [ae 12,.j (bf E),ag r])→G):G:=by
 have D:E.length≤100000:=aD Z rfl;have W:∀q∈E,q.2<3:=fun q F=>by
  have⟨i,γ,e⟩:=q_ F;have h {n:Nat} (e:q.2=n) (l:n<3):q.2<3:=e▸l;exact(p7 o p (e▸cS γ)).elim (fun z=>h z.1 (aY rfl)) fun z=>z.elim (fun z=>h z.1 (aY rfl)) fun z=>z.elim (fun z=>h z.1 (aY rfl)) fun z=>h z.1 (aY rfl)
 have c:=u5 (S:=[3]) (Y:=aF R::J) D;rw[vl.resolve_right fun z=>cF z fun i q b w δ=>aR (W q (eR w)) (by refine ak (bW.mp δ) ?_;decide)] at c;have C:=u5 (S:=[2,1]) (Y:=aF R::J) D;have P:=EW (Y:=aF R::J) D fun i q F b k=>by
  rcases vl with h|⟨j,Q,h,w,s⟩
  ·rw[h] at k;exact absurd k (Int.not_lt.mpr (Int.le_trans (by decide) (Int.natCast_nonneg i)))
  ·have k:=h▸k;have k:=Int.ofNat_lt.mp k;have s:=List.mem_singleton.mp s;have A:=p7 o p F;have y:=p7 o p w;have A:=((A.resolve_left fun z=>Nat.zero_ne_one (z.1.symm.trans b)).resolve_right fun z=>z.elim (fun z=>absurd (z.1.symm.trans b) (by decide)) fun z=>Nat.zero_ne_one (z.1.symm.trans b)).2;have:a.os≠[]:=fun e=>e7 A.1 (by have h:=A.2;unfold aK.fr at h;rw[e] at h;exact h);have ε:=o.alt.resolve_left this;have:=y.resolve_left fun h=>e7 (ao A.1 (gJ k)) h.2;have:=(this.resolve_left fun h=>kY 0 (dN (.c 1 .b .n0 (.c 1 .n1 .b (.g 1 .n1 .n0))) rfl (a9 s) (a9 (cB h.1)))).resolve_left fun h=>kY 0 (dN (.c 1 .b .n0 (.c 1 .n2 .b (.g 2 .n1 .n0))) rfl (a9 s) (a9 (cB h.1)));exact this.2.2 ε
 have T:=PN (v:=o9 [2,1] E) (Y:=aF R::J) D W (by
  unfold gw;refine ak (kb o p) ?_;by_cases X:a.rs=[]
  ·exact ak (aJ X) (av (by decide))
  ·refine ak (aL X) (aI ?_);rcases(vl) with h|⟨j,Q,h,w,s⟩
   ·exact ak h (Int.le_trans (by decide) (Int.natCast_nonneg a.fr))
   ·refine ak h (Int.ofNat_le.mpr ?_);have y:=p7 o p w;have u:Q.2≠0:=fun e=>aR s (by rw[e];decide);exact y.elim (fun z=>aR z.1 u) fun z=>z.elim (fun z=>gJ z.2.2) fun z=>z.elim (fun z=>a9 z.2.1) fun z=>aR z.1 u)
 refine p8 (J:=J) (row:=.j [ae 12,.j (bf E),ag r]) I E3 (aD β rfl) fun t d U A y ζ η=>q t d (yW.of _ _ fun n B=> ?_) A y ζ η;have c:=c n (bl B rfl);have C:=C n (bl B rfl);have P:=P n (bl B rfl);have T:=T n (bl B rfl);have U:=U n (bl B rfl);have V:=fM (n:=n) (g:=164) [0] 0 59 bc E (fun q=>[bc q]) [(1,.l (an 0)),(8,.l (.c (bf E))),(7,.l (ag r))] (aF R::J) fun q F=>by exact cX 0 []
 have V:=cB kd▸V;have L:E.length≤16777216:=aD Z rfl;have m:(bf E).length≤b4:=ao (a9 ed) (aD Z rfl);induction b:(E.length==1) with
 |false=>
  exact aw 4096 [.le m,.sub V,.call c,.call C,.call P,.call T,.p ed L,.x b,.call U]
 |true=>
  have α:=dL.mp b;have u:E[0]? =ac (E[0]'(α▸pB)):=cS _;have M:=p7 o p u;generalize E[0]'(α▸pB)=x at u M;have N:(x.2==2)=false:=c5.mpr fun e=>by rcases M with h|h|h|h<;>first|exact absurd f (h.2.1▸Nat.lt_irrefl 0)|exact absurd (e.symm.trans h.1) (by decide)
  exact aw 68719480832 [.le m,.sub V,.call c,.call C,.call P,.call T,.p ed L,.x b,.row (hS u),.x N,.call U]
end
noncomputable def gv (f:Nat→Option Nat) (p:Nat) (k:List Nat):List Nat:=match f p with|some u=>[u]|none=>k
noncomputable def aK.pick (a:aK) (f:Nat→Option Nat):aK:={a with hs:=a.hs.mapIdx (gv f)}
theorem lB {a:aK}:(a.pick f).hs.length=a.hs.length:=by unfold aK.pick;simp
theorem zG (h:u<9):gh [u]:=kG (by simp) (by simp) (by simpa using h) (by simp;rintro rfl;exact⟨by decide,by decide⟩) (by simp;rintro rfl;decide)
theorem An {a:aK} (o:a.Ok) (j:∀p u,f p=ac u→∀k,a.hs[p]? =ac k→u∈k):(a.pick f).Ok:=by
 refine⟨o.rs,o.ts,fun k d=> ?_,o.c,o.alt⟩;have l:k∈(a.pick f).hs∨k∈a.os++a.rs++a.ts:=by
  simp only[dD] at d⊢;rcases d with((h|h)|h)|h
  ·exact .inl h
  ·exact .inr (.inl (.inl h))
  ·exact .inr (.inl (.inr h))
  ·exact .inr (.inr h)
 rcases l with h|h
 ·obtain⟨i,b,e⟩:=List.getElem_of_mem h;have b:=lB▸b;have E:gv f i a.hs[i]=k:=by rw[←e];exact List.getElem_mapIdx.symm
  have m:=o.nk a.hs[i] (by simp[List.getElem_mem]);induction c:f i with
  |none=>unfold gv at E;have E:=c▸E;rw[←E];exact m
  |some u=>
   unfold gv at E;have E:=c▸E;have g:=j i u c _ (cS b);rw[←E];exact⟨zG (m.1.2.2.1 u g),fun n=>m.2 (by rw[bW.mp n];exact g)⟩
 ·refine o.nk k ?_;simp only[dD] at h⊢;rcases h with(h|h)|h
  ·exact .inl (.inl (.inr h))
  ·exact .inl (.inr h)
  ·exact .inr h
theorem b6.c:∀{l:List (List Nat×Nat)},E.length=l.length→(∀(i:Nat) (q:Nat×Nat),E[i]? =ac q→∃k O,l[i]? =ac (k,q.2)∧bH R q.1 k O∧q.2<3)→b6 R E l:=by
 induction E with
 |nil=>intro l h _;cases fs.mp h.symm;exact g9
 |cons q E I=>
  intro l h b;induction l using cn with
  |nil=>exact(by injection h)
  |cons p l=>
   refine cF (b 0 q rfl) fun j O a e f=> ?_;injection a with a;subst a;exact gO e f (I (uc h) fun i q g=>b (i+1) q g)
noncomputable def jQ (c:List (Nat×Nat)) (E:List (Nat×Nat)):List (Nat×Nat):=E.mapIdx fun p q=>((c.lookup p).getD q.1,q.2)
noncomputable def ff (R:List aj) (c:List (Nat×Nat)) (p:Nat):Option Nat:=(c.lookup p).map (g_ R)
theorem J3 {a:aK}:(a.pick f).els[i]? =(a.els[i]?).map fun q=>(if i<a.hs.length then gv f i q.1 else q.1,q.2):=by
 unfold aK.els;have p:(a.pick f).os=a.os∧(a.pick f).rs=a.rs∧(a.pick f).ts=a.ts:=fg rfl rfl rfl;rw[p.1,p.2.1,p.2.2,ef,ef,ef,ef];by_cases h:i<a.hs.length
 ·rw[jF (by rw[aB,lB];exact h),jF (by rw[aB];exact h)];unfold aK.pick;simp only[dX,nU,aJ h];cases a.hs[i]? <;>rfl
 ·have k:∀(X y T:List (List Nat×Nat)),X.length=y.length→¬i<X.length→(X++T)[i]? =(y++T)[i]? :=fun X y T b c=>by
   rw[jE (by exact cD (.c 1 .b .f (.g 1 .b .f)) rfl (dC c)),jE (by exact b5 (.c 1 .b .f (.c 1 .f .g (.g 1 .b .g))) rfl (a9 (cB b)) (dC c)),b]
  rw[k _ (a.hs.map (·,0)) _ (by rw[aB,aB,lB]) (by rw[aB,lB];exact h)];simp only[aL h];generalize a.hs.map (·,0)++(a.os.map (·,1)++(a.rs.map (·,2)++a.ts.map (·,0)))=T;cases T[i]? <;>rfl
theorem Kc {R:List aj} (I:aW R) {a:aK} (d:b6 R E a.els) (m:∀q∈E,q.2<3) (n:∀p i,c.lookup p=ac i→p<a.hs.length∧∃u,cq R i u):b6 R (jQ c E) (a.pick (ff R c)).els:=by
 have o:a.els.length=(a.pick (ff R c)).els.length:=by rw[nc,nc,lB];rfl
 refine .c (by unfold jQ;rw[RL,d.len,o]) fun i q b=> ?_;unfold jQ at b;rw[nU] at b;induction h:E[i]?with
 |none=>have b:=h▸b;injection b
 |some e=>
  rw[h] at b;simp only[n5,lN] at b;subst b;refine bK (d.at h) fun k O L P=> ?_;have f:=m e (eR h);refine ak J3 (ak L ?_);unfold ff;induction l:c.lookup i with
  |none=>exact⟨k,O,by simp[gv,l],P,f⟩
  |some j=>
   refine(n i j l).elim fun t z=>z.elim fun u g=>es ([u]) ([j]) (?_) (bH.d I g) f;simp[t,gv,l,hT g]
noncomputable def jM:List (Nat×List Nat)→List (Nat×Nat)→Prop
 |[],[]=>True
 |q::s,p::c=>p.1=q.1∧p.2∈q.2∧jM s c
 |_,_=>False
noncomputable def iO (s:List (Nat×List Nat)):Nat:=s.foldr (fun q n=>q.2.length*n) 1
theorem J0:∀{s:List (Nat×List Nat)},(∀q∈s,0<q.2.length)→0<iO s:=by
 intro s;induction s with
 |nil=>
  intro _;decide
 |cons q s i=>
  exact fun h=>Nat.mul_pos (h q (by simp)) (i fun q a=>h q (by simp[a]))
theorem B6:∀{s:List (Nat×List Nat)} {acc:List (List (Nat×Nat))},(∀q∈s,0<q.2.length)→
  (acc.length*iO s≤25→(dP s acc).length=acc.length*iO s∧∀c,c∈dP s acc↔∃b C,c=b++C∧b∈acc∧jM s C)∧(25<acc.length*iO s→s≠[]→dP s acc=[]):=by
 intro s;induction s with
 |nil=>
  intro acc _;refine⟨fun _=>⟨(lR _).symm,fun c=> ?_⟩,fun _ h=>aR rfl h⟩;constructor
  ·intro h;exact es c ([]) (by simp) h trivial
  ·rintro ⟨b,C,rfl,f,d⟩;induction C using cn with
   |nil=>exact(c8 _).symm▸f
   |cons _ _=>exact d.elim
 |cons x s I=>
  intro acc m;obtain⟨p,O⟩:=x;have k:∀q∈s,0<q.2.length:=fun q o=>m q (by simp[o]);have e:(fD p O acc).length*iO s=acc.length*iO ((p,O)::s):=by rw[vi];show _=acc.length*(O.length*iO s);rw[Ek]
  have r:(fD p O acc).length≤acc.length*iO ((p,O)::s):=ak (cB e) (Rc _ (J0 k));obtain⟨t,u⟩:=I k;constructor
  ·intro h;have n:¬25<(fD p O acc).length:=e7 (cD (.c 1 .b .f (.c 1 .f (.n 25) (.g 1 .b (.n 25)))) rfl r h);obtain⟨a,A⟩:=t (by refine ak e ?_;exact h);have E:dP ((p,O)::s) acc=dP s (fD p O acc):=aL n;refine ak E (⟨by rw[a,e],fun c=> ?_⟩);rw[A];constructor
   ·rintro ⟨b,C,rfl,f,d⟩;refine ay (pz.mp f) fun v g j=>ay (cr.mp j) fun i w y=> ?_;subst y;exact⟨v,(p,i)::C,by simp,g,rfl,w,d⟩
   ·rintro ⟨b,C,rfl,f,d⟩;induction C using cn with
    |nil=>exact d.elim
    |cons q C=>
     refine dQ d fun g j z=>es (b++[q]) C (by simp) ((pz.mpr ⟨b,f,cr.mpr ⟨q.2,j, ?_⟩⟩)) z;rw[←show q.1=p from g]
  ·intro h _;by_cases n:25<(fD p O acc).length
   ·exact aJ n
   ·have E:dP ((p,O)::s) acc=dP s (fD p O acc):=aL n;refine ak E ?_;by_cases l:s=[]
    ·subst l;exfalso;rw[←e] at h;simp[iO] at h;exact kY 0 (dN (.c 1 .b (.n 25) (.c 1 (.a (.n 25) .n1) .b (.g 1 .n1 .n0))) rfl (dC n) h)
    ·exact u (by rw[e];exact h) l
def iQ (a:aK) (ls:List aK) (f:Nat→Option Nat):Prop:=∀p,(p∈gf a ls→∃u,f p=ac u∧u∈(a.hs[p]?).getD [])∧(p∉gf a ls→f p=ah)
noncomputable def cw (a:aK) (ls:List aK):Nat:=(gf a ls).foldr (fun p n=>((a.hs[p]?).getD []).length*n) 1
def hw (a:aK) (ls:List aK):Prop:=(1<cw a ls∧cw a ls<26)∧∀f,iQ a ls f→∃l∈ls,db (a.pick f) l
theorem H3 (h:p∈gf a ls):p<a.hs.length:=hB.mp (c_.mp h).1
theorem jM.keys:∀{s:List (Nat×List Nat)} {c:List (Nat×Nat)},jM s c→c.map (·.1)=s.map (·.1)
 |[],[],_=>rfl
 |[],_::_,h=>h.elim
 |_::_,[],h=>h.elim
 |_::_,_::_,h=>by simp only[eE];rw[h.1,h.2.2.keys]
theorem jM.get:∀{s:List (Nat×List Nat)} {c:List (Nat×Nat)},jM s c→∀{p i:Nat},c.lookup p=ac i→∃O,(p,O)∈s∧i∈O
 |[],[],_,p,i,h=>by injection h
 |[],_::_,h,_,_,_=>h.elim
 |_::_,[],h,_,_,_=>h.elim
 |q::s,r::c,h,p,i,l=>by
  refine dQ h fun a b d=> ?_;rw[show r=(r.1,r.2) from rfl,fP] at l;by_cases e:p=r.1
  ·rw[show(p==r.1)=af by simp[e]] at l;injection l with l;subst l;exact⟨q.2,by rw[e,a];simp,b⟩
  ·rw[c5.mpr e] at l;exact ay (d.get l) fun O f g=>bd O (je _ f) g
theorem z':∀{c:List (Nat×Nat)},p∉c.map (·.1)→c.lookup p=none:=by
 intro c;induction c with
 |nil=>
  intro _;rfl
 |cons q c i=>
  intro h;simp only[eE,eS,not_or] at h;rw[show q=(q.1,q.2) from rfl,fP,c5.mpr h.1];exact i h.2
theorem BR {c:List (Nat×Nat)} (h:p∈c.map (·.1)):∃i,c.lookup p=ac i:=mW.mp (List.lookup_isSome_iff.mpr ((cr.mp h).imp fun q h=>⟨h.1,dL.mpr h.2.symm⟩))
section
theorem hv.cnt_eq (I:aW R) (h:hv R a ls a.hs.length s):iO s=cw a ls:=by
 unfold cw gf;rw[←h.b];have:=h.ids;clear h;induction s with
 |nil=>rfl
 |cons q s i=>
  refine bK (this q (by simp)) fun t k c d=> ?_;show q.2.length*iO s=_;rw[i fun q e=>this q (by simp[e]),d.len_eq I];simp[c]
theorem hv.pick (I:aW R) (h:hv R a ls a.hs.length s) (n:jM s c):(∀p i,c.lookup p=ac i→p<a.hs.length∧∃u,cq R i u∧u∈(a.hs[p]?).getD [])∧iQ a ls (ff R c):=by
 have y:∀p i,c.lookup p=ac i→p<a.hs.length∧∃u,cq R i u∧u∈(a.hs[p]?).getD []:=fun p i l=>by
  refine ay (n.get l) fun O q r=>bK (h.ids _ q) fun t k d v=>ay (v.to i r) fun u e w=> ?_;have x:p<a.hs.length:=by
   rcases Ew p a.hs.length with f|f
   ·exact f
   ·rw[List.getElem?_eq_none f] at d;injection d
  exact⟨x,u,w,by rw[d];exact e⟩
 have g:=n.keys;rw[h.b] at g;refine⟨y,fun p=>⟨fun j=> ?_,fun j=> ?_⟩⟩
 ·refine(BR (by rw[g];exact j)).elim fun i o=> ?_;obtain⟨_,u,e,m⟩:=y p i o;exact bd u (by unfold ff;rw[o,n5,hT e]) m
 ·unfold ff;rw[z' (by rw[g];exact j)];rfl
theorem hv.back (I:aW R) (h:hv R a ls a.hs.length S) (x:iQ a ls f):∃c,jM S c∧ff R c=f:=by
 have g:∀(s:List (Nat×List Nat)),(∀q∈s,q∈S)→∃c,jM s c∧∀p i,c.lookup p=ac i→f p=ac (g_ R i):=by
  intro s;induction s with
  |nil=>exact fun _=>⟨[],trivial,fun _ _ h=>by injection h⟩
  |cons q s y=>
   refine fun r=>ay (y fun q z=>r q (by simp[z])) fun c n v=>bK (h.ids q (r q (by simp))) fun t k A B=> ?_;have d:q.1∈gf a ls:=by
    have:q.1∈S.map (·.1):=cr.mpr (bd q (r q (by simp)) rfl);rw[h.b] at this;exact this
   refine ay ((x q.1).1 d) fun u C m=> ?_;rw[A] at m;refine ay (B.fr u m) fun i o D=>bd ((q.1,i)::c) (⟨rfl,o,n⟩) (fun p j l=> ?_);rw[fP] at l;by_cases e:p=q.1
   ·rw[show(p==q.1)=af by simp[e]] at l;injection l with l;subst l;rw[e,C,hT D]
   ·rw[c5.mpr e] at l;exact v p j l
 refine ay (g S fun q h=>h) fun c n v=>bd c n (funext fun p=> ?_);have w:=n.keys;rw[h.b] at w;by_cases d:p∈gf a ls
 ·obtain⟨i,o⟩:=BR (by rw[w];exact d);unfold ff;rw[o,v p i o];rfl
 ·rw[(x p).2 d];unfold ff;rw[z' (by rw[w];exact d)];rfl
theorem hv.chosen (I:aW R) (h:hv R a ls a.hs.length s):(1<(dP s [[]]).length∧∀c∈dP s [[]],∃l∈ls,db (a.pick (ff R c)) l)↔hw a ls:=by
 have p:=fun q n=>by
  exact bK (h.ids q n) fun t k _ o=>(o.idn I).2
 obtain⟨S,j⟩:=B6 p;rw[show(([[]]:List (List (Nat×Nat))).length)=1 from rfl,ru] at S j;unfold hw;refine ak (cB (h.cnt_eq I)) ?_;have m:iO s≤25→∀c,c∈dP s [[]]↔jM s c:=fun r c=>by
  rw[(S r).2];constructor
  ·refine fun z=>cF z fun C x y d i=> ?_;subst y;refine ak (bW.mp d) ?_;exact i
  ·exact fun h=>⟨[],c,rfl,by simp,h⟩
 by_cases g:iO s≤25
 ·refine ak ((S g).1) ?_;constructor
  ·rintro ⟨d,i⟩;refine⟨⟨d,dN (.c 1 .b (.n 25) (.g 1 (.a .b .n1) (.n 26))) rfl g⟩,fun f u=>(ay (h.back I u) fun c v y=> ?_)⟩;subst y;exact i c ((m g c).mpr v)
  ·rintro ⟨⟨d,_⟩,i⟩;exact⟨d,fun c w=>i _ (h.pick I ((m g c).mp w)).2⟩
 ·constructor
  ·rintro ⟨d,_⟩;rw[j (dN (.c 1 (.a (.n 25) .n1) .b (.g 1 (.a (.n 25) .n1) .b)) rfl (f' g)) (fun e=>by subst e;exact g (by decide))] at d;simp at d
  ·rintro ⟨⟨_,d⟩,_⟩;exact aR (iW d) g
end
theorem b6.els (h:b6 R E l):oG R (bf E) l:=h.rec .nil fun a _ _ i=>.cons a i
theorem Px:∀{c:List (Nat×Nat)},f3 (ag p) (hh c)=(c.lookup p).map ag:=by
 intro c;induction c with
 |nil=>rfl
 |cons x c i=>
  obtain⟨a,b⟩:=x;show(if aj.beq (ag a) (ag p)=af then ac (ag b) else f3 (ag p) (hh c))=_
  rw[my,fP,i];by_cases e:a=p
  ·subst e;rw[aJ (cu rfl),iX];rfl
  ·rw[aL (fun h=>e (dB h)),c5.mpr fun h=>e h.symm]
def tD (R:List aj) (Pr:List (Nat×Nat)):Prop:=∀p∈Pr,(∃l,cg R p.1 l)∧∃q,R[p.2]? =ac (.j [ae 6,q])
theorem tD.mono (x:bL R r) (h:tD R Pr):tD r Pr:=fun p a=>(h p a).elim fun z Z=>z.elim fun l b=>Z.elim fun q c=>⟨⟨l,b.mono x⟩,q,x.at c⟩
theorem cg.not6 (h:cg R t l) (a:R[t]? =ac (.j [ae 6,q])):False:=by
 refine cF h.hd fun c x b e _=> ?_;exact aR e (by rw[←show(6:Int)=c from(aS kM (a.symm.trans b))];decide)
def l5 (R:List aj) (O:List Nat) (isL:Nat→Bool) (A:Nat→aK):Prop:=∀j∈O,(isL j=af→cg R j (A j)∧(A j).els.length≤50)∧(isL j=ai→∃u,cq R j u)
theorem l5.mono (x:bL R r) (h:l5 R O isL A):l5 r O isL A:=fun j a=>⟨fun l=>⟨((h j a).1 l).1.mono x,((h j a).1 l).2⟩,fun l=>((h j a).2 l).elim fun u b=>⟨u,b.mono x⟩⟩
theorem hv.chs_facts (I:aW R) (h:hv R a ls a.hs.length s):(dP s [[]]).length≤25∧(∀y∈dP s [[]],jM s y)∧(1<(dP s [[]]).length→(dP s [[]]).length=cw a ls):=by
 refine(B6 (acc:=[[]]) fun q i=>bK (h.ids q i) fun t k _ d=>(d.idn I).2).elim fun S f=> ?_;rw[show(([[]]:List (List (Nat×Nat))).length)=1 from rfl,ru] at S f;by_cases c:iO s≤25
 ·refine(S c).elim fun g j=> ?_;refine fg (g▸c) (fun y l=> ?_) (fun _=>g.trans (h.cnt_eq I));refine cF ((j y).mp l) fun C n e m d=> ?_;rw[e,bW.mp m];exact d
 ·rw[f (f' c) (fun e=>by subst e;exact c (aY rfl))];exact fg (aY rfl) (fun _ h=>(by cases h)) (fun h=>aR h (by decide))
theorem Nu (x:bL R r) (h:∀p i,c.lookup p=ac i→∃u,cq R i u):ff r c=ff R c:=funext fun p=>by
 unfold ff;induction l:c.lookup p with
 |none=>rfl
 |some i=>
  refine(h p i l).elim fun u a=> ?_;rw[n5,n5,hT a,hT (a.mono x)]
theorem cg.d (o:a.Ok) (h:R[t]? =ac (.j [ae 12,.j (bf E),ag a.c])) (b:b6 R E a.els) (f:0<a.fr):cg R t a:=⟨o,aI (g2 _ h b.els f)⟩
noncomputable def j4 (s ro:Nat) (X:aj) (E:List (Nat×Nat)) (js:List Nat) (cs:List (List (Nat×Nat))):au:=[(27,.l (an 2)),(29,.l (ag s)),(23,.l X),(34,.l (an 1)),(20,.l (.j [ae 12,.j (bf E),ag ro])),(63,.l (.c (js.map ag))),(64,.l (.c (cs.map eK)))]
section
theorem N':ca bw (aZ n) (ep 256 [5,0] 0 58 (f4 0 (jU E.length)) (j4 s ro X E js cs++[(62,.l (eK y))]) Y) (.h (.c (bf (jQ y E)))) (j4 s ro X E js cs++[(62,.l (eK y))]) Y:=by
 have c:=fM (n:=n) (g:=256) [5,0] 0 58 (fun p=>ag p.2) E.zipIdx (fun p=>[bc ((y.lookup p.2).getD p.1.1,p.1.2)]) (j4 s ro X E js cs++[(62,.l (eK y))]) Y fun p h=>by
  have g:=nw (hS (nH h));have k:(ov (ag p.2) (hh y) (ag p.1.1)).e=ac (ag ((y.lookup p.2).getD p.1.1)):=by
   show(if _ then ac ((f3 (ag p.2) (hh y)).getD (ag p.1.1)) else ah)=_
   rw[aJ Bs,Px,Option.getD_map]
  exact cX 273 [.get g,.F k,.get g]
 rw[←kd,←lj] at c;have e:bf (jQ y E)=E.zipIdx.map fun p=>bc ((y.lookup p.2).getD p.1.1,p.1.2):=by
  unfold bf jQ;refine ak List.mapIdx_eq_zipIdx_map (ak eg ?_);rfl
 exact ak e c
theorem Mm {m M:bh} (z:E.length≤50) (c:aZ n 164 [.l (an 0),.l (.c (bf (jQ y E))),.l (ag ro)] (m.st R) (ag t) [] (m.st r))
  (C:aZ n 218 [.l (an 2),.l (ag t),.l (.c (js.map ag))] (m.st r) (aA b) [] (M.st a)):fc n 256 [5] (he (j4 s ro X E js cs)) (eK y) (j4 s ro X E js cs) (m.st R) (if b then a' else .h (aA ai)) (j4 s ro X E js cs) (M.st a):=by
 have h:E.length≤100000:=aD z rfl;have d:(f4 0 (jU E.length)).length≤b4:=by rw[lj,aB,pu];exact aD z rfl
 induction b<;>exact bq 65537 [.G ed (aD z rfl),.le h,.le d,.sub (N' (s:=s) (ro:=ro) (X:=X) (E:=E) (y:=y) (js:=js) (cs:=cs) (Y:=m.st R)),.call c,.call C]
theorem J1 {m:bh} (f:l5 R O isL A):ca bw (aZ n) (ep 256 [2] 0 59 (O.map ag) [(27,.l (an 2)),(29,.l (ag s)),(23,.l X),(34,.l (an 1)),(20,.l r)] (m.st R)) (.h (.c ((O.filter isL).map ag))) [(27,.l (an 2)),(29,.l (ag s)),(23,.l X),(34,.l (an 1)),(20,.l r)] (m.st R):=by
 have C:=fM (n:=n) (g:=256) [2] 0 59 ag O (fun j=>if isL j then[ag j] else[]) [(27,.l (an 2)),(29,.l (ag s)),(23,.l X),(34,.l (an 1)),(20,.l r)] (m.st R) fun j i=>by
  have h:∃c x,R[j]? =ac (.j (ae c::x))∧cZ (ae c) (.j [ae 11,ae 12])=ac (isL j):=by
   induction b:isL j with
   |true=>
    exact cF (((f j i).1 b).1.hd) fun c x e d _=>⟨c,x,e,by rcases d with rfl|rfl<;>rfl⟩
   |false=>
    have⟨u,k⟩:=(f j i).2 b;exact cF k.head fun c x e d _=>cN c x e (by rcases d with rfl|rfl|rfl|rfl<;>rfl)
  refine bK h fun c x e d=> ?_;cases b:isL j<;>rw[b] at d<;>exact cX 0 [.row e,.get (eI (a:=ae c) (x:=x)),.has d]
 rw[nI] at C;exact C
end
structure tm (R:List aj) (Pr:List (Nat×Nat)) (a:aK) (E:List (Nat×Nat)) (js:List Nat) (A:Nat→aK) (c:Nat) (m:bh):Prop where
 ok:eC R Pr m
 g:d6 m.tw
 q:a.Ok
 hE:b6 R E a.els
 o:E.length≤50
 r:0<a.fr
 h3:a.hs.length≤3
 hA:∀j∈js,cg R j (A j)∧(A j).els.length≤50
 l:js.length≤100
 hPr:tD R Pr
 hc:∀f,iQ a (js.map A) f→∀j∈js,(a.pick f).W*(A j).els.length+2≤c
 d:m.dp<58
 hne:m.tr≠[]∨(Pr=[]∧m.tel=ai)
 n:R.length≤500000
structure vn (R:List aj) (Pr:List (Nat×Nat)) (m:bh) (a:aK) (js:List Nat) (A:Nat→aK) (c:Nat) (d:List (List (Nat×Nat))) (x:bh×List aj):Prop where
 I:aW x.2
 ex:bL R x.2
 z:x.2.length≤R.length+d.length*(1+101*js.length)
 g:dU x.2 Pr m x.1 (c*js.length*d.length)
 w:d6 x.1.tw
 hd:∀y∈d,∃l∈js.map A,db (a.pick (ff R y)) l
 n1:a.c≠0∨m.tel=ai→x.1.N=m.N
section
theorem tm.pick (b:tm R Pr a E js A c m) (I:aW f) (X:bL R f) (s:hv f a (js.map A) a.hs.length S) (C:jM S y) (D:aW w) (x:bL f w):
  b6 w (jQ y E) (a.pick (ff f y)).els∧(a.pick (ff f y)).Ok∧iQ a (js.map A) (ff f y):=by
 refine(s.pick I C).elim fun t F=>fg (?_) (An b.q fun p u j k G=> ?_) F
 ·rw[←Nu x fun p i h=>(t p i h).elim fun _ z=>z.elim fun u Z=>Z.elim fun j _=>⟨u,j⟩];exact Kc D (b.hE.mono (X.trans x)) b.hE.lt3 fun p i h=>(t p i h).elim fun L z=>z.elim fun u Z=>Z.elim fun j _=>⟨L,u,j.mono x⟩
 ·unfold ff at j;refine ay (dg.mp j) fun i M e=>(t p i M).elim fun _ z=>z.elim fun v Z=>Z.elim fun N B=> ?_;rw[hT N] at e;rw[G] at B;exact e▸B
theorem E5 (b:tm R Pr a E js A c m) (I:aW u) (β:bL R u) (Z:u.length≤R.length+20000) (S:hv u a (js.map A) a.hs.length π) (ρ:jM π y) (g:vn u Pr m a js A c d x) (σ:d.length+1≤25)
  (γ:m.a+c*js.length*(d.length+1)+1≤20000) (N:m.N≤60000)
  {G:Prop} (q:∀t D w v r,aE 4 164 [.l (an 0),.l (.c (bf (jQ y E))),.l (ag a.c)] (x.1.st x.2) (ag t) [] (x.1.st D)→aE 27 218 [.l (an 2),.l (ag t),.l (.c (js.map ag))] (x.1.st D) (aA r) [] (w.st v)→
   aW v→bL u v→v.length≤u.length+(d.length+1)*(1+101*js.length)→dU v Pr m w (c*js.length*(d.length+1))→d6 w.tw→(r=af↔∃j∈js,db (a.pick (ff u y)) (A j))→(r=af→a.c≠0∨m.tel=ai→w.N=m.N)→G):G:=by
 refine dQ (b.pick I β S ρ g.I g.ex) fun V o τ=> ?_;have δ:(jQ y E).length≤50:=by unfold jQ;exact ak RL b.o
 have f:0<(a.pick (ff u y)).fr:=by unfold aK.fr;exact ak lB b.r
 have ε:x.2.length+1+101*js.length≤u.length+(d.length+1)*(1+101*js.length):=by
  rw[uk,ru,ev,←ev u.length];exact dc g.z _
 have υ:(d.length+1)*(1+101*js.length)≤25*(1+101*100):=k2 σ (ci (fh _ b.l) _);have ζ:x.2.length+1+101*js.length≤790000:=ao ε (ao (dd (ao Z (dc b.n _)) υ) (aY rfl));have W:c*js.length*(d.length+1)=c*js.length*d.length+c*js.length:=Eu _ _;have η:x.1.a+c*js.length+1≤20000:=by have:=g.g.l;exact eY (.c 1 (.a (.a .b .f) .n1) (.n 20000) (.c 1 (.a .g .j) .f (.c 1 .l (.a .b .g) (.g 1 (.a (.a .l .j) .n1) (.n 20000))))) rfl γ (a9 (cB W)) this
 have θ:x.1.N+c*js.length≤80000:=by have:=g.g.j;exact j' (.c 1 (.a (.a .b .f) .n1) (.n 20000) (.c 1 .g (.n 60000) (.c 1 (.a .j .l) .f (.c 1 .o (.a .g .j) (.g 1 (.a .o .l) (.n 80000)))))) rfl γ N (a9 (cB W)) this
 refine CZ (J:=x.1.rest) g.I o V.marks f δ (r:=a.c) (ao (bu _ (1+101*js.length)) (ao (a9 (ev ..).symm) (aD ζ rfl))) fun t D C φ F ι χ=> ?_;have ψ:cg D t (a.pick (ff u y)):=.d o χ (V.mono F) f;have κ:=V.len▸δ;refine g.g.tr.elim fun X μ=> ?_
 refine Ac (s:=t) (k:=26) (z:=101) (P:=fun j=>db (a.pick (ff u y)) (A j)) (q:=fun j=>(A j).c≠0∨t=j) φ (g.g.ok.mono F) g.w (aI rfl)
  (b.hne.imp (fun h e=>h (pk.mp (μ▸e)).1) fun h=>g.g.tel.trans h.2) (by decide) (fun j Q b₁ v i ν M b₂ q=> ?_) (kg η) (aD θ rfl) fun w v r ω n=> ?_
 ·refine(b.hA j Q).elim fun L ξ=> ?_;have α:=b.hc _ τ j Q;have T:=((β.trans g.ex).trans F).trans M.x;have ο:=fh c ν;have a₀:=M.g.l;have a₁:=M.N;have a₂:v.length≤800000:=by have:=M.z;exact eY (.c 1 (.a (.a .b .n1) (.m 101 .f)) (.n 790000) (.c 1 .g (.a .b .n1) (.c 101 (.a .j .n1) .f (.c 1 .l (.a .g (.m 101 .j)) (.g 1 .l (.n 800000)))))) rfl ζ ι ν this
  refine vQ M.I M.g.ok M.w (ψ.mono M.x) (L.mono T) κ ξ a₂ (fun p a₃=>((b.hPr p a₃).1).elim fun l U=>⟨l,U.mono T⟩) (fun a₄=>(b.hPr _ a₄).elim fun _ Z=>Z.elim fun q a₅=>(L.mono T).not6 (T.at a₅)) (ao (dc (ao (dd a₀ (pm α)) (ao (a9 (ev ..)) (ci ο _))) 1) η) (a₁▸aD (ao (ci (ao (kg α) (ao (Rc c (m3 i)) ο)) _) θ) rfl) (M.g.dp.trans g.g.dp▸b.d)
   (b.hne.imp (fun h e=>h (pk.mp (μ▸(M.t▸e))).1) (·.1)) fun a₆ a₇ r a₈ B=>q a₆ a₇ r a₈ ⟨B.I,B.x,ao B.z (ci (b3 (dd κ ξ)) _),B.g.le α,B.w,B.iff,B.n0,B.n1,B.n2⟩
 ·refine q t D w v r C ω n.I (g.ex.trans (F.trans n.x)) (ao n.z (ao (dc ι _) ε)) (W▸g.g.trans n.g) n.w n.iff fun a₉ h=> ?_;rw[←g.n1 h];exact ay (n.iff.mp a₉) fun j Q U=>n.n1 (h.imp (fun b₀=>g2 j Q U (av fun e=>b₀ (rv.mp (e▸U.1)))) g.g.tel.trans)
theorem E9 (b:tm R Pr a E js A c m) (I:aW o) (v:bL R o) (Z:o.length≤R.length+20000) (S:hv o a (js.map A) a.hs.length p) (β:∀y∈cs,jM p y) (B:cs.length≤25) (k:m.a+c*js.length*cs.length+1≤20000) (γ:m.N≤60000)
  {G:Prop} (q:∀(r:Bool) x,(∀n,27≤n→ca bw (aZ n) (dR 256 [5] ah (cs.map eK) (j4 s a.c X E js cs) (m.st o)) (if r then a' else .h (aA ai)) (j4 s a.c X E js cs) (x.1.st x.2))→(r=af→vn o Pr m a js A c cs x)→
   (r=ai→aW x.2∧bL o x.2∧x.2.length≤o.length+25*(1+101*js.length)∧dU x.2 Pr m x.1 (c*js.length*cs.length)∧d6 x.1.tw∧∃y∈cs,¬∃j∈js,db (a.pick (ff o y)) (A j))→G):G:=by
 refine qF (N:=(27≤·)) (g:=256) (b:=ah) [5] eK cs (fun _:bh×List aj=>j4 s a.c X E js cs) (fun x=>x.1.st x.2) (vn o Pr m a js A c)
  (fun f x=>f=a'∧vn o Pr m a js A c cs x∨f=.h (aA ai)∧aW x.2∧bL o x.2∧x.2.length≤o.length+25*(1+101*js.length)∧dU x.2 Pr m x.1 (c*js.length*cs.length)∧d6 x.1.tw∧∃y∈cs,¬∃j∈js,db (a.pick (ff o y)) (A j))
  (m,o) ⟨I,.f,bu _ _,(dU.f (b.ok.mono v)),b.g,(fun _ h=>(by cases h)),fun _=>rfl⟩ rfl (fun d y ι x e F κ Q δ=> ?_) (fun x h=>av ⟨rfl,h⟩) fun f x h w=> ?_
 ·have D:d.length+1≤cs.length:=by exact ak e (ak bi (ci (b3 (cA _)) _))
  have C:=fh (c*js.length) D;have L:=eO e;refine E5 b I v Z S (β y L) F (ao D B) (ao (b3 (ci C _)) k) γ fun t μ M P r ε ζ i U z V W α η=> ?_;have T {n:Nat} (u:27≤n):=Mm (s:=s) (X:=X) (cs:=cs) b.o (ε n (bl u rfl)) (ζ n u);induction r with
  |true=>
   refine ay (α.mp rfl) fun j θ l=> ?_;refine Q (M,P) ⟨i,U,by refine ak bi ?_;exact z,by refine ak bi ?_;exact V,W,i3 F.hd ⟨_,q' θ,l⟩,η rfl⟩ rfl fun n u=>T u
  |false=>exact δ (.h (aA ai)) (M,P) (aI ⟨rfl,i,U,ao z (ci (pq _ (ao D B)) _),V.le C,W,y,L,fun h=>nomatch α.mpr h⟩) rfl fun n u=>T u
 ·rcases h with⟨e,h⟩|⟨e,h⟩
  ·exact q true x (fun n u=>e▸w n u) (fun _=>h) fun e=>(by injection e)
  ·exact q ai x (fun n u=>e▸w n u) (fun e=>(by injection e)) fun _=>h
end
structure S_ (R:List aj) (Pr:List (Nat×Nat)) (m:bh) (a:aK) (ls:List aK) (c:Nat) (b:bh) (d:List aj) (r:Bool):Prop where
 I:aW d
 x:bL R d
 z:d.length≤R.length+300000
 g:dU d Pr m b c
 w:d6 b.tw
 iff:r=af↔hw a ls
 n1:r=af→a.c≠0∨m.tel=ai→b.N=m.N
 n2:r=af→a.c=0→m.tel=af→m.N<b.N
section
variable{a:aK} {m:bh}
theorem xH {b:bh} (q:18≤k) (f:X=.j (O.map ag)∨X=.c (O.map ag)) (u:l5 R O isL A) (v:O.length≤100) (g:R[s]? =ac (.j [ae 12,.j (bf E),ag a.c]))
  (c:aE 18 255 [.l (an 2),.l (.j [ae 12,.j (bf E),ag a.c]),.l (.c ((O.filter isL).map ag))] (m.st R) (.c (S.map kF)) [] (m.st i))
  (C:aE 1 254 [.l (.c (S.map kF))] (m.st i) (.c ((dP S [[]]).map eK)) [] (m.st i)) (x:(dP S [[]]).length≤25)
  (w:∀n,k≤n→aM ((dP S [[]]).length<2)=ai→ca bw (aZ n) (dR 256 [5] ah ((dP S [[]]).map eK) (j4 s a.c X E (O.filter isL) (dP S [[]])) (m.st i)) (if r then a' else .h (aA ai)) (j4 s a.c X E (O.filter isL) (dP S [[]])) (b.st t))
  (y:aM ((dP S [[]]).length<2)=af→r=ai∧b.st t=m.st i) (B:b.N≤1000000):
  aE (k+1) 256 [.l (an 2),.l (ag s),.l X] (m.st R) (aA r) [] ((if r&&a.c==0 then{b with N:=if b.tel then b.N+1 else b.N} else b).st t):=yW.of _ _ fun n j=>by
 have c:=c n (ao q j);have C:=C n (bl (ao q j) rfl);have o:=J1 (n:=n) (s:=s) (X:=X) (m:=m) u (r:=.j [ae 12,.j (bf E),ag a.c]);have l:(O.map ag).length≤b4:=by rw[aB];exact aD v rfl
 have z:(dP S [[]]).length≤16777216:=aD x rfl;have w:=w n j;generalize dP S [[]]=e at*;induction d:aM (e.length<2) with
 |true=>
  refine(y d).elim fun D F=> ?_;subst D;refine ak (show(if(ai&&a.c==0)=af then{b with N:=if b.tel then b.N+1 else b.N} else b)=b from rfl) (ak F ?_)
  rcases f with rfl|rfl<;>exact aw 0 [.row g,.le l,.sub o,.call c,.call C,.p (ds:=e.map eK) (List.length_map _) z,.A d]
 |false=>
  have w:=w d;induction r with
  |false=>rcases f with rfl|rfl<;>exact aw 0 [.row g,.le l,.sub o,.call c,.call C,.p (ds:=e.map eK) (List.length_map _) z,.A d,.sub w]
  |true=>
   induction p:(a.c !=0) with
   |true=>
    refine ak (show(af&&a.c==0)=ai from c5.mpr (k5.mp p)) ?_;rcases f with rfl|rfl<;>exact aw 4294967296 [.row g,.le l,.sub o,.call c,.call C,.p (ds:=e.map eK) (List.length_map _) z,.A d,.sub w,.E p]
   |false=>
    refine ak (show(af&&a.c==0)=af from dL.mpr (gl fun h=>cp (p.symm.trans (k5.mpr h)))) ?_;rcases f with rfl|rfl<;>exact aw 4294967296 [.row g,.le l,.sub o,.call c,.call C,.p (ds:=e.map eK) (List.length_map _) z,.A d,.sub w,.E p,.call (tq (R:=t) B n (bl (Nat.le_trans q j) rfl))]
theorem CT (I:aW R) (b:tm R Pr a E (O.filter isL) A c m) (Q:R[s]? =ac (.j [ae 12,.j (bf E),ag a.c])) (T:X=.j (O.map ag)∨X=.c (O.map ag)) (U:l5 R O isL A) (V:O.length≤100)
  (v:cw a ((O.filter isL).map A)<26→m.a+c*(O.filter isL).length*cw a ((O.filter isL).map A)+1≤20000) (ε:cw a ((O.filter isL).map A)<26→m.N≤60000) (ν:m.N≤100000)
  {G:Prop} (q:∀ζ B r,aE 28 256 [.l (an 2),.l (ag s),.l X] (m.st R) (aA r) [] (ζ.st B)→S_ R Pr m a ((O.filter isL).map A) (c*(O.filter isL).length*cw a ((O.filter isL).map A)+1) ζ B r→G):G:=by
 have η:=fh 3 (fh 52 b.l);refine JS (m:=m) I b.q b.hE b.o b.h3 b.hA (aD b.l rfl) (aD (dd b.n η) rfl) fun D p C i f z S=> ?_;have z:D.length≤R.length+20000:=ao z (ci (aD η rfl) _);have ξ:p.length≤3:=by
  have:=aS gK S.b;rw[aB] at this;exact this▸ao (hY _ _) (by refine ak gm ?_;exact b.h3)
 have α:=Fh (Y:=m.st D) (aD ξ rfl) (fun q ο=>bK (S.ids q ο) fun t k _ h=>aD (h.idn i).1 rfl) (by refine ak S.b ?_;exact D2.sublist mX);have β:=S.chosen i;refine dQ (S.chs_facts i) fun u π ρ=> ?_;have θ {B:List aj} (h:B.length≤D.length+25*(1+101*(O.filter isL).length)):B.length≤R.length+300000:=ao h (ao (dd z (fh 25 (ci (fh 101 b.l) 1))) (ao (a9 (ev ..)) (ci (aY rfl) _)));by_cases d:(dP p [[]]).length<2
 ·exact q m D ai (xH (aY rfl) T U V Q C α u (fun n _ h=>nomatch(cu d).symm.trans h) (fun _=>⟨rfl,rfl⟩) (aD ν rfl))
   ⟨i,f,ao z (ci (aY rfl) _),(dU.f (b.ok.mono f)).le (cA _),b.g,⟨(fun h=>hU h),fun h=>aR (β.mpr h).1 (e7 (iW d))⟩,(fun h=>hU h),fun h=>hU h⟩
 ·have d:=dC d;have ι:=ρ d;have γ:=ι▸t0 u;have v:=v γ;rw[←ι] at v q;refine E9 b i f z S π u v (ε γ) (s:=s) (X:=X) fun r x w F σ=> ?_;have N:aM ((dP p [[]]).length<2)=af→r=ai∧x.1.st x.2=m.st D:=fun h=>nomatch(cP (e7 d)).symm.trans h;induction r with
  |false=>
   have⟨τ,υ,Z,g,W,y,φ,χ⟩:=σ rfl;exact q x.1 x.2 ai (xH (aY rfl) T U V Q C α u (fun n δ _=>w n δ) N (aD g.ok.N rfl)) ⟨τ,f.trans υ,θ Z,g.le (fQ _),W,⟨(fun h=>hU h),fun h=>(ay ((β.mpr h).2 y φ) fun l ψ ω=>(ay (cr.mp ψ) fun j a₀ e=>aR (bd j a₀ (e▸ω)) χ))⟩,(fun h=>hU h),fun h=>hU h⟩
  |true=>
   have o:=F rfl;have Z:=θ (ao o.z (ci (pq _ u) _));have L:=xH (aY rfl) T U V Q C α u (fun n δ _=>w n δ) N (aD o.g.ok.N rfl);have κ:=β.mp ⟨d,o.hd⟩;have μ:=o.g.le (fQ _);by_cases P:a.c=0
   ·rw[show(af&&a.c==0)=af from dL.mpr P] at L;have e:(if x.1.tel=af then x.1.N+1 else x.1.N)≤x.1.N+1∧x.1.N≤if x.1.tel=af then x.1.N+1 else x.1.N:=by split;exact⟨bv _,fQ _⟩;exact⟨fQ _,bv _⟩
    have N:=o.g.j;refine q _ x.2 af L ⟨o.I,f.trans o.ex,Z,μ.withN e.2 (ao e.1 (b3 N)) (ao e.1 (ao (b3 N) (b5 (.c 1 .b (.n 60000) (.c 1 (.a (.a .f .g) .n1) (.n 20000) (.g 1 (.a (.a .b .g) .n1) (.n 100000)))) rfl (ε γ) v))),o.w,⟨fun _=>κ,fun _=>rfl⟩,fun _ h=> ?_,fun _ _ h=> ?_⟩
    ·have F:=h.resolve_left fun h=>h P;exact ak o.g.tel (ak F (o.n1 (aI F)))
    ·refine ak o.g.tel ?_;exact ak h (ak (aJ rfl) (t0 o.g.N))
   ·rw[show(af&&a.c==0)=ai from c5.mpr P] at L;exact q x.1 x.2 af L ⟨o.I,f.trans o.ex,Z,μ,o.w,⟨fun _=>κ,fun _=>rfl⟩,fun _ h=>o.n1 h,fun _ h=>aR h P⟩
end
theorem Br (h:cg R s a) (b:cq R j u):s≠j:=fun e=>by
 refine cF h.hd fun c x d f _=>cF b.head fun C X k g _=> ?_;have E:=aS kM (d.symm.trans (e▸k));have E:c=C:=E;subst E;rcases f with rfl|rfl<;>exact absurd g (by decide)
theorem H5 {m:bh} (I:aW R) (h:cg R s a) (b:cq R j u):aE 6 4921 [.l (an 2),.l (ag s),.l (ag j)] (m.st R) (aA ai) [] (m.st R):=cF h.hd fun c x d f g=>cF b.head fun C X k i l=>(ni (zZ (fun e=>Br h b (dh e)) d g k (.a l) (av rfl) ((Qu (h.far I).1 (l6 (b.far I)) d k f i).up (aY rfl)))).up (aY rfl)
theorem Pd {m m2:bh} (p:gY R t O) (h:aE (k+1) 256 [.l (an 2),.l (ag s),.l (.j (O.map ag))] (m.st R) d [] (m2.st r)):
  aE (k+2) 7280 [.l (an 5),.l (an 2),.l (ag s),.l (ag t)] (m.st R) d [] (m2.st r):=yW.of _ _ fun n a=>by
 have b:aZ n 165 [.l (an 0),.l (ag t)] (m.st R) (.j (O.map ag)) [] (m.st R):=jx p n (ao (b3 (cA _)) a);exact aw 0 [.call b,.call (h n a)]
structure S1 (m:bh) (R:List aj) (Pr:List (Nat×Nat)) (a:aK) (s:Nat) (O:List Nat) (isL:Nat→Bool) (A:Nat→aK) (c:Nat) (m2:bh) (b:List aj) (r:Bool):Prop where
 I:aW b
 x:bL R b
 z:b.length≤R.length+400000
 g:dU b Pr m m2 c
 w:d6 m2.tw
 iff:r=af↔(∃j∈O.filter isL,db a (A j))∨hw a ((O.filter isL).map A)
 n1:r=af→(∃j∈O.filter isL,db a (A j)∧((A j).c≠0∨s=j))→m2.N=m.N
 n2:r=af→(∃j∈O.filter isL,db a (A j))→¬(∃j∈O.filter isL,db a (A j)∧((A j).c≠0∨s=j))→m.tel=af→m.N<m2.N
 n3:r=af→¬(∃j∈O.filter isL,db a (A j))→a.c≠0→m2.N=m.N
 n4:r=af→¬(∃j∈O.filter isL,db a (A j))→a.c=0→m.tel=af→m.N<m2.N
section
variable{m m2 m4:bh}
theorem O' (p:gY R t O) (h:O.contains s=af):aE 2 220 [.l (an 2),.l (ag s),.l (ag t)] (m.st R) (aA af) [] (m.st R):=yW.of _ _ fun n a=>by
 have c:aZ n 165 [.l (an 0),.l (ag t)] (m.st R) (.j (O.map ag)) [] (m.st R):=jx p n a;have q:=qD (i:=s) (O:=O);rw[h] at q;exact aw 0 [.call c,.has q]
theorem II (b:1≤k) (p:gY R t O) (h:O.contains s=ai) (c:aE k 218 [.l (an 2),.l (ag s),.l (.j (O.map ag))] (m.st R) (aA af) [] (m2.st r)):aE (k+1) 220 [.l (an 2),.l (ag s),.l (ag t)] (m.st R) (aA af) [] (m2.st r):=yW.of _ _ fun n a=>by
 have C:aZ n 165 [.l (an 0),.l (ag t)] (m.st R) (.j (O.map ag)) [] (m.st R):=jx p n (ao b a);have q:=qD (i:=s) (O:=O);rw[h] at q;exact aw 0 [.call C,.has q,.call (c n a)]
theorem Hk (d:1≤k) (p:gY R t O) (h:O.contains s=ai) (c:aE k 218 [.l (an 2),.l (ag s),.l (.j (O.map ag))] (m.st R) (aA ai) [] (m2.st b)) (w:b[s]? =ac (.j [ae 12,.j (bf E),ro]))
  (C:aE k 199 [.l (an 2),.l (ae 12),.l (ag s),.l (ag t)] (m2.st b) (aA r) [] (m4.st e)):aE (k+1) 220 [.l (an 2),.l (ag s),.l (ag t)] (m.st R) (aA r) [] (m4.st e):=yW.of _ _ fun n a=>by
 have f:aZ n 165 [.l (an 0),.l (ag t)] (m.st R) (.j (O.map ag)) [] (m.st R):=jx p n (ao d a);have q:=qD (i:=s) (O:=O);rw[h] at q;exact aw 462848 [.call f,.has q,.call (c n a),.row w,.call (C n a)]
end
section
theorem ON (I:aW R) (b:tm R Pr a E (O.filter isL) A c m) (w:R[s]? =ac (.j [ae 12,.j (bf E),ag a.c])) (x:R[t]? =ac (.j [ae 6,.j (O.map ag)])) (μ:t≠2) (ν:2≤O.length) (F:l5 R O isL A) (α:O.length≤100) (ξ:R.length≤100000)
  (τ:∀j∈O.filter isL,a.W*(A j).els.length+2≤c0) (ο:m.a+c0*O.length≤20000) (υ:cw a ((O.filter isL).map A)<26→m.a+c0*O.length+c*(O.filter isL).length*cw a ((O.filter isL).map A)+1≤20000)
  (β:m.N≤30000) (φ:∀j∈O,(s,j)∉m.tr∧((s,j),af)∉m.K) (e:m.tr≠[])
  {G:Prop} (q:∀m2 W r,aE 50 220 [.l (an 2),.l (ag s),.l (ag t)] (m.st R) (aA r) [] (m2.st W)→S1 m R Pr a s O isL A (c0*O.length+(c*(O.filter isL).length*cw a ((O.filter isL).map A)+1)) m2 W r→G):G:=by
 have L:cg R s a:=.d b.q w b.hE b.r;have π:=b.hE.len▸b.o;have γ:gY R t O:=⟨μ,aI ⟨x,ν⟩⟩;induction y:O.contains s with
 |true=>
  have δ:=ee.mp y;have ρ:=gl fun h=>((F s δ).2 (nV.mpr h)).elim fun u ε=>Br L ε rfl;have χ:=((F s δ).1 ρ).1.uniq I L;have Q:=c_.mpr ⟨δ,ρ⟩;have X:db a (A s):=χ▸ .f;have d:∃j∈O.filter isL,db a (A j):=bd s Q X;exact q m R af ((O' γ y).up (aY rfl)) ⟨I,.f,bu _ _,(dU.f b.ok).le (cA _),b.g,⟨fun _=>av d,fun _=>rfl⟩,fun _ _=>rfl,fun _ _ h=>aR (g2 s Q X (aI rfl)) h,fun _ h=>aR d h,fun _ h=>aR d h⟩
 |false=>
  refine Ac (s:=s) (k:=26) (z:=101) (P:=fun j=>isL j=af∧db a (A j)) (q:=fun j=>(A j).c≠0∨s=j) I b.ok b.g (av rfl) (av e) (aY rfl) (fun i ζ ψ η d S f a₈ q=> ?_)
   ο (b5 (.c 1 (.a .b .f) (.n 20000) (.c 1 .g (.n 30000) (.g 1 (.a .g .f) (.n 90000)))) rfl ο β) fun m2 W r C n=> ?_
  ·induction U:isL i with
   |false=>
    exact((F i ζ).2 U).elim fun u ε=>q ψ η ai ((H5 f.I (L.mono f.x) (ε.mono f.x)).up (aY rfl)) ⟨f.I,.f,bu _ _,(dU.f f.g.ok).le (cA _),f.w,⟨(fun h=>hU h),fun h=>aR (U.symm.trans h.1) cp⟩,fun _=>⟨rfl,rfl⟩,fun _=>rfl,fun _ _ _ h=>hU h⟩
   |true=>
    refine((F i ζ).1 U).elim fun σ Z=> ?_;have ω:=τ i (c_.mpr ⟨ζ,U⟩);have a₉:=fh c0 S;have b₀:=f.g.l;have b₁:=f.N;have a₀:=f.z
    exact vQ f.I f.g.ok f.w (L.mono f.x) (σ.mono f.x) π Z (b7 (.c 101 .b (.n 100) (.c 1 .f (.n 100000) (.c 101 (.a .g .n1) .b (.c 1 .j (.a .f (.m 101 .g)) (.g 1 .j (.n 800000)))))) rfl α ξ S a₀) (fun p a₁=>((b.hPr p a₁).1).elim fun l X=>⟨l,X.mono f.x⟩) (fun a₂=>(b.hPr _ a₂).elim fun _ a₃=>a₃.elim fun q y=>(σ.mono f.x).not6 (f.x.at y)) (by lia) (by lia) (f.g.dp▸b.d) (av (f.t▸e))
     fun a₄ a₅ r a₆ B=>q a₄ a₅ r a₆ ⟨B.I,B.x,ao B.z (ci (b3 (dd π Z)) _),B.g.le ω,B.w,B.iff.trans ⟨fun h=>⟨U,h⟩,fun h=>h.2⟩,B.n0,B.n1,B.n2⟩
  ·have S:(∃j∈O,isL j=af∧db a (A j))↔∃j∈O.filter isL,db a (A j):=⟨fun z=>eA z fun j g v V=>bd j (c_.mpr ⟨g,v⟩) V,fun z=>ay z fun j g v=>g2 j ((c_.mp g).1) ((c_.mp g).2) v⟩;have θ:=ao n.z (ci (fh 101 α) _);induction r with
   |true=>
    have D:=S.mp (n.iff.mp rfl)
    exact q m2 W af ((II (aY rfl) γ y C).up (aY rfl)) ⟨n.I,n.x,ao θ (ci (aY rfl) _),n.g.le (bu _ _),n.w,⟨fun _=>av D,fun _=>rfl⟩,fun _ z=>eA z fun i g v V=>n.n1 (av ⟨i,(c_.mp g).1,⟨(c_.mp g).2,v⟩,V⟩),
     fun _ _ h x=>n.n2 (fun z=>eA z fun i g v V=>h ⟨i,c_.mpr ⟨g,v.1⟩,v.2,V⟩) x φ rfl,fun _ h=>aR D h,fun _ h=>aR D h⟩
   |false=>
    have ι:¬∃j∈O.filter isL,db a (A j):=fun h=>nomatch n.iff.mpr (S.mpr h);refine(n.n0 rfl).elim fun N T=> ?_
    refine CT n.I ⟨n.g.ok,n.w,b.q,b.hE.mono n.x,b.o,b.r,b.h3,fun j Q=>⟨(b.hA j Q).1.mono n.x,(b.hA j Q).2⟩,b.l,b.hPr.mono n.x,b.hc,n.g.dp▸b.d,av (T▸e),ao θ (aD (dc ξ _) rfl)⟩
     (n.x.at w) (av rfl) (F.mono n.x) α (fun h=>by have:=υ h;exact b7 (.c 1 .b (.a .f .g) (.c 1 (.a (.a (.a .f .g) .j) .n1) (.n 20000) (.g 1 (.a (.a .b .j) .n1) (.n 20000)))) rfl n.g.l this) (fun _=>N▸aD β rfl) (N▸aD β rfl) fun m4 η r a₇ o=> ?_
    refine q m4 η r ((Hk (aY rfl) γ y (C.up (aY rfl)) (n.x.at w) (J5 (Pd ⟨μ,aI ⟨n.x.at x,ν⟩⟩ a₇))).up (aY rfl)) ⟨o.I,n.x.trans o.x,ao o.z (ao (dc θ _) (ao (a9 (ev ..)) (ci (aY rfl) _))),n.g.trans o.g,o.w,
     o.iff.trans ⟨aI,fun h=>h.resolve_left ι⟩,fun _ z=>eA z fun i g v _=>aR (bd i g v) ι,fun _ h=>aR h ι,fun h _ κ=>(o.n1 h (av κ)).trans N,fun h _ κ x=>N▸o.n2 h κ (n.g.tel.trans x)⟩
end
theorem Gs:∀j∈[0,1,2,3,10,13],¬kM dT[j]? =6:=by
 have:[0,1,2,3,10,13].all (fun j=> !aM (kM dT[j]? =6))=true:=by kernel_rfl
 exact fun j h=>by simpa using cH.mp this j h
theorem Bn (I:aW R) (h:R[t]? =ac (.j [ae 6,p])):gc t:=
 have f {j:Nat} (a:j∈[0,1,2,3,10,13]) (b:j<16):¬(t:Int)=(j:Int):=fun e=>by
  rw[dh e,I.at b] at h;exact Gs j a (by refine ak h ?_;rfl)
 ⟨f (by decide) (aY rfl),f (by decide) (aY rfl),f (by decide) (aY rfl),f (by decide) (aY rfl),f (by decide) (aY rfl),f (by decide) (aY rfl)⟩
theorem LR:gf a [b]=[]:=by
 unfold gf;rw[List.filter_eq_nil_iff];refine fun p _ h=>dQ (nM.mp h) fun _ z _=>z.elim fun x Z=>Z.elim fun e f=>f.elim fun y g=>g.elim fun i j=>j.elim fun k l=>l.elim fun q m=>m.elim fun c n=>n.elim fun d o=> ?_;rw[bW.mp e] at c;rw[bW.mp i,c] at d;exact o (bD d)
theorem Gc:¬hw a [b]:=fun h=>by
 have:=h.1.1;unfold cw at this;rw[LR] at this;exact aR this (gI 1)
def CQ (R:List aj) (t:Nat) (O:List Nat) (isL:Nat→Bool):Prop:=(O=[t]∧isL t=af)∨(R[t]? =ac (.j [ae 6,.j (O.map ag)])∧t≠2∧2≤O.length∧∃j∈O,isL j=af)
def mu (a:aK) (O:List Nat) (isL:Nat→Bool) (A:Nat→aK):Prop:=∃j∈O.filter isL,db a (A j)
def qv (a:aK) (s:Nat) (O:List Nat) (isL:Nat→Bool) (A:Nat→aK):Prop:=∃j∈O.filter isL,db a (A j)∧((A j).c≠0∨s=j)
noncomputable def fe:bh:=⟨[],[],0,0,0,af,ah⟩
theorem fe.ok:eC R [] fe:=⟨h7,(fun _ h=>nomatch h),(fun _ h=>nomatch h),(fun _ h=>nomatch h),aY rfl,aY rfl,aY rfl⟩
structure Lu (R:List aj) (a:aK) (s:Nat) (O:List Nat) (isL:Nat→Bool) (A:Nat→aK) (c:Nat) (m:bh) (b:List aj) (r:Bool):Prop where
 I:aW b
 x:bL R b
 z:b.length≤R.length+400000
 g:dU b [] fe m c
 w:d6 m.tw
 iff:r=af↔mu a O isL A∨hw a ((O.filter isL).map A)
 no:¬(¬qv a s O isL A∧(mu a O isL A∨(hw a ((O.filter isL).map A)∧a.c=0)))→m.N=0
 yes:¬qv a s O isL A∧(mu a O isL A∨(hw a ((O.filter isL).map A)∧a.c=0))→m.N≠0
section
theorem LZ (I:aW R) (L:cg R s a) (k:a.els.length≤50) (x:isL t=af) (y:cg R t (A t)) (Z:(A t).els.length≤50) (C:R.length≤100000) (f:a.W*(A t).els.length+2≤c0) (o:c0≤19999) (z:Nat)
  {G:Prop} (q:∀m u r,aE 26 4921 [.l (an 2),.l (ag s),.l (ag t)] (fe.st R) (aA r) [] (m.st u)→Lu R a s [t] isL A (c0+z) m u r→G):G:=by
 have E:[t].filter isL=[t]:=by rw[rh,aJ x];rfl
 have n:¬hw a (([t].filter isL).map A):=by rw[E];exact Gc
 have d:mu a [t] isL A↔db a (A t):=by unfold mu;exact ak E (⟨fun z=>ay z fun j g h=>bW.mp g▸h,fun h=>bd t (cU _) h⟩)
 have c:qv a s [t] isL A↔db a (A t)∧((A t).c≠0∨s=t):=by unfold qv;exact ak E (⟨fun z=>ay z fun j g h=>bW.mp g▸h,fun h=>bd t (cU _) h⟩)
 refine vQ I fe.ok trivial L y k Z (aD C rfl) (fun p D=>nomatch D) (fun h=>nomatch h) (cD (.c 1 (.a .b .n2) .f (.c 1 .f (.n 19999) (.g 1 (.a (.a .n0 .b) .n1) (.n 20000)))) rfl f o) (cD (.c 1 (.a .b .n2) .f (.c 1 .f (.n 19999) (.g 1 (.a (.a .n0 .b) .n1) (.n 90000)))) rfl f o) (aY rfl) (aI rfl) fun M F r B b=>q M F r B ⟨b.I,b.x,ao b.z (ci (aD (b3 (dd k Z)) rfl) _),b.g.le (ao f (bu _ _)),b.w, ?_,fun h=> ?_,fun z=>z.elim fun v w=> ?_⟩
 ·rw[b.iff,d];exact⟨av,fun h=>h.resolve_right n⟩
 ·rw[c,d] at h;by_cases l:db a (A t)
  ·exact b.n1 (av (gl fun i=>h ⟨fun h=>i h.2,av l⟩))
  ·exact(b.n0 (nV.mpr fun e=>l (b.iff.mp e))).1
 ·rw[c] at v;rw[d] at w;have l:=w.elim id fun h=>aR h.1 n;exact lP (b.n2 (fun i=>v ⟨l,i⟩) rfl ⟨(fun h=>nomatch h),(fun h=>nomatch h)⟩ (b.iff.mpr l))
theorem Qv (I:aW R) (o:a.Ok) (w:R[s]? =ac (.j [ae 12,.j (bf E),ag a.c])) (Q:b6 R E a.els) (Z:E.length≤50) (γ:0<a.fr) (ζ:a.hs.length≤3) (v:CQ R t O isL) (D:l5 R O isL A) (δ:O.length≤100) (S:R.length≤100000)
  (ε:∀j∈O.filter isL,a.W*(A j).els.length+2≤c0) (T:c0*O.length+1≤20000)
  (V:∀f,iQ a ((O.filter isL).map A) f→∀j∈O.filter isL,(a.pick f).W*(A j).els.length+2≤c) (η:cw a ((O.filter isL).map A)<26→c0*O.length+c*(O.filter isL).length*cw a ((O.filter isL).map A)+2≤20000)
  {G:Prop} (q:∀M F r,aE 54 4921 [.l (an 2),.l (ag s),.l (ag t)] (fe.st R) (aA r) [] (M.st F)→Lu R a s O isL A (c0*O.length+(c*(O.filter isL).length*cw a ((O.filter isL).map A)+2)) M F r→G):G:=by
 have l:cg R s a:=.d o w Q γ;rcases v with⟨θ,L⟩|⟨v,ι,κ,j,y,μ⟩
 ·subst θ;refine((D t (.head _)).1 L).elim fun ν ξ=> ?_;have ο:c0*[t].length=c0:=lR _;rw[ο] at T q;exact LZ I l (Q.len▸Z) L ν ξ S (ε t (c_.mpr ⟨cU _,L⟩)) (q8 T) _ fun M F r h=>q M F r (h.up (aY rfl))
 ·have n:∀j∈O,j≠t:=fun j y e=>by
   induction b:isL j with
   |true=>exact((D j y).1 b).1.not6 (e▸v)
   |false=>
    refine((D j y).2 b).elim fun u π=>cF π.head fun C x k ρ _=> ?_;have k:=e▸k;have α:=aS kM (k.symm.trans v);have α:C=6:=α;subst α;exact aR ρ (by decide)
  have σ:tD R [(s,t)]:=fun p τ=>bW.mp τ▸⟨⟨a,l⟩,_,v⟩;have υ:(O.filter isL).length≤100:=ao (hY _ _) δ
  refine ON (Pr:=[(s,t)]) I ⟨w' fe.ok rfl (fun h=>nomatch h) (by decide),trivial,o,Q,Z,γ,ζ,fun j y=>(D j (c_.mp y).1).1 (c_.mp y).2,υ,σ,V,(show 1<58 by decide),av (fun h=>nomatch h),aD S rfl⟩ w v ι κ D δ S ε
   (dN (.c 1 (.a .b .n1) (.n 20000) (.g 1 (.a (.a .n0 .n1) .b) (.n 20000))) rfl T) (fun h=>by have:=η h;exact cD (.c 1 (.a (.a .b .f) .n2) (.n 20000) (.g 1 (.a (.a (.a (.a .n0 .n1) .b) .f) .n1) (.n 20000))) rfl this) (cA _) (fun j y=>⟨fun h=>n j y (Sg (bW.mp h)).2,fun h=>nomatch h⟩) (fun h=>nomatch h) fun M F r φ U=> ?_
  refine(wl fe.ok U.x rfl (fun h=>nomatch h) (aY rfl) (by decide) (aY rfl) (aI rfl) (BB w (by decide) v φ) U.g (aI (aI ⟨⟨a,l.mono U.x⟩,O,j,A j,U.x.at v,y,((D j y).1 μ).1.mono U.x⟩))).elim fun χ ψ=>jc ψ fun ω g W N a₀=>cF l.hd fun a₂ X P B k=>q χ F r ((ni (v_ (fun e=>l.not6 (dh e▸v)) P k v (.un _) ((wr (m:=fe) (l.far I).1 (Bn I v) P v (aI ⟨by rcases B with B|B<;>simp[B],rfl⟩)).up (aY rfl)) ω (aY rfl))).up (aY rfl)) ⟨U.I,U.x,U.z,g.le (bv _),W▸U.w,U.iff,fun h=> ?_,fun z=>z.elim fun P B=> ?_⟩
  ·induction r with
   |false=>exact(a₀ rfl).1
   |true=>
    rw[N rfl];by_cases d:mu a O isL A
    ·exact U.n1 rfl (gl fun V=>h ⟨V,av d⟩)
    ·exact U.n3 rfl d fun a₁=>h ⟨fun z=>eA z fun i P B _=>d ⟨i,P,B⟩,aI ⟨(U.iff.mp rfl).resolve_left d,a₁⟩⟩
  ·have β:=U.iff.mpr (B.imp id fun h=>h.1);rw[N β];by_cases d:mu a O isL A
   ·exact lP (U.n2 β d P rfl)
   ·exact lP (U.n4 β d (B.resolve_left d).2 rfl)
end
noncomputable def qw (a:Nat) (ns:List Int):b0:=.c [ag a,.c (ns.map ae)]
def gz (c:b0):Prop:=∃a n,n.length≤40∧c=qw a n
theorem Ce (x:Int) (b:0<n):∃v,eP .Mod (ae x) (ag n)=ac (ag v)∧v<n:=by
 have h:(0:Int)<n:=g5.mpr b;have a:=Int.fmod_nonneg_of_pos x h;refine bd ((uu x n).toNat) (?_) ((yi a).mpr (Int.fmod_lt_of_pos x h));show(if(0:Int)<(n:Int) then ac (ae (uu x n)) else ah)=ac (ae ((uu x n).toNat:Nat))
 rw[aJ h,DP a]
theorem fC (f:gz c) (d:0<n) (Y:ar) {G:Prop} (q:∀v C,aE 1 277 [.a c,.l (ag n)] Y (ag v) [C] Y→v<n→gz C→G):G:=by
 refine bK f fun a N l e=> ?_;subst e;have L:N.length≤16777216:=aD l rfl;by_cases h:a<N.length
 ·refine ay (Ce N[a] d) fun v b B=>q v (qw (a+1) N) (yW.of _ _ fun k i=> ?_) B ⟨a+1,N,l,rfl⟩;have g:(N.map ae)[a]? =ac (ae N[a]):=by rw[dX,cS h];rfl
  exact aw 260 [.p (ds:=N.map ae) (aB _) L,.A (cu h),.row g,.w b]
 ·refine ay (Ce ((a:Int)*7+2) d) fun v b B=>q v (qw (a+1) N) (yW.of _ _ fun k i=> ?_) B ⟨a+1,N,l,rfl⟩;exact aw 516 [.p (ds:=N.map ae) (aB _) L,.A (cP h),.w b]
noncomputable def a5 (us:List Nat):aj:=.c (us.map ag)
theorem IW:∀us:List Nat,(us.map ag).any (fun x=>aj.beq x (ae i))=us.any fun u=>(u:Int)==i:=fun us=>us.rec rfl fun u us I=>aS (((u:Int)==i)||·) (I)
theorem v6 {us:List Nat}:cZ (ae i) (.c (us.map ag))=ac (us.any fun u=>(u:Int)==i):=by
 have h:(us.map ag).all (aj.plain 8)=true:=by rw[pD,cH];exact fun _ _=>rfl
 show(if(aj.plain 8 (ae i)&&(us.map ag).all (aj.plain 8))=af then _ else _)=_
 rw[h,IW];rfl
theorem sy {i:Nat} {us:List Nat}:(us.any fun u=>(u:Int)==(i:Int))=us.contains i:=by
 rw[ji,t4,ee];exact⟨fun z=>ay z fun u a b=>dh (dL.mp b)▸a,fun h=>bd i h (iX _)⟩
noncomputable def sS:Nat→Int
 |0=>6
 |1=>6
 |2=>7
 |_=> -1
theorem I_ (j:Nat):(us.any fun u=>(u:Int)==sS j)=ce us j:=by
 have a:(us.any fun u=>(u:Int)==6)=us.contains 6:=sy;have b:(us.any fun u=>(u:Int)==7)=us.contains 7:=sy
 match j with
 |0=>show(us.any fun u=>(u:Int)==6)=_;rw[a];simp[ce]
 |1=>show(us.any fun u=>(u:Int)==6)=_;rw[a];simp[ce]
 |2=>show(us.any fun u=>(u:Int)==7)=_;rw[b];simp[ce]
 |j+3=>
  have m:(us.any fun u=>(u:Int)==(-1))=false:=RV.mpr fun u _ h=>nomatch(dL.mp h:(u:Int)= -1);show(us.any fun u=>(u:Int)==(-1))=_;rw[m];simp[ce]
theorem FD (h:∀u∈us,u<8):(cv 8).filter (fun u=>us.contains u&& !ce us u)=cM us:=by
 unfold cM;rewrite [show cv 9=cv 8++[8] from rfl,pv,rh,nV.mpr fun m=>aR (h 8 (ee.mp m)) (gI 8)];exact(c8 _).symm
theorem u':(cM us).length≤us.length:=
 List.Nodup.length_le_of_subset (D2.sublist mX) fun u h=>(fp.mp h).2.1
theorem sH {Y:ar} (h:∀u∈us,u<8):aE 1 278 [.l (a5 us)] Y (a5 (cM us)) [] Y:=yW.of _ _ fun n m=>by
 refine ak (cB (FD h)) ?_;obtain⟨x,_,l⟩:=hr (n:=n) (g:=278) (b:=ah) [1] ag (cv 8) (fun d (_:Unit)=>[(76,.l (a5 us)),(13,bE (.c ((d.filter fun u=>us.contains u&& !ce us u).map ag)))]) (fun _ _=>Y) (fun _ _=>True) () trivial rfl fun D j r x e _=>⟨(),a',trivial,av rfl,by
  have f:ez (.c [ae 6,ae 6,ae 7,ae (-1),ae (-1),ae (-1),ae (-1),ae (-1)]) (ag j)=ac (ae (sS j)):=by
   have:∀j∈cv 8,ez (.c [ae 6,ae 6,ae 7,ae (-1),ae (-1),ae (-1),ae (-1),ae (-1)]) (ag j)=ac (ae (sS j)):=by
    rw[show cv 8=[0,1,2,3,4,5,6,7] from rfl];simp only[pp,kh,false_implies,implies_true,and_true];exact Hn rfl rfl rfl rfl rfl rfl rfl rfl
   exact this j (eO e)
  have G:cZ (ag j) (.c (us.map ag))=ac (us.contains j):=by rw[←sy];exact v6
  have c:cZ (ae (sS j)) (.c (us.map ag))=ac (ce us j):=by rw[←I_];exact v6
  have E:D.length≤8:=by rw[←gm (n:=8),e,bi];exact bu _ _
  have i:fL 3 (.c ((D.filter fun u=>us.contains u&& !ce us u).map ag)) [ag j]=ac (a4,.c ((D.filter fun u=>us.contains u&& !ce us u).map ag++[ag j])):=
   aJ (by rw[aB];exact ao (hY _ _) (aD E rfl))
  rw[pv,cm,rh];generalize(D.filter fun u=>us.contains u&& !ce us u).map ag=X at i;induction a:us.contains j with
  |false=>
   have G:=a▸G;refine ak (show(X++(if(ai&& !ce us j)=af then j::[].filter (fun u=>us.contains u&& !ce us u) else[].filter fun u=>us.contains u&& !ce us u).map ag)=X from c8 X) ?_
   exact bq 0 [.get f,.has G]
  |true=>
   rw[a] at G;induction k:ce us j with
   |true=>
    rw[k] at c;refine ak (show(X++(if(af&& !af)=af then j::[].filter (fun u=>us.contains u&& !ce us u) else[].filter fun u=>us.contains u&& !ce us u).map ag)=X from c8 X) ?_
    exact bq 0 [.get f,.has G,.has c]
   |false=>
    rw[k] at c;exact bq 0 [.get f,.has G,.has c,.u i],rfl⟩
 exact aw 1 [.sub l]
structure pi (k:List Nat):Prop where
 nk:gh k
 a:8∉k
 l:k.length≤3
theorem rK (o:gz c) (Y:ar) {G:Prop} (q:∀k C,aE 2 279 [.a c] Y (a5 k) [C] Y→pi k→gz C→G):G:=by
 refine fC (n:=3) o (by decide) Y fun v p t s D=> ?_
 refine qN (g:=279) [0] 0 57 ag (cv (1+v)) (fun x:b0×List Nat=>x.2.map ag) (fun x=>[(74,.a x.1)]) (fun _=>Y) (fun d x=>gz x.1∧(∀u∈x.2,u<8)∧x.2.length=d.length) (p,[]) (fg D (fun _ h=>(by cases h)) rfl) rfl
  (fun F j r x e a L q=>fC a.1 (by decide) Y fun w y T z A=>q (y,x.2++[w]) [ag w] (fg A (i3 a.2.1 z) (by rw[bi,a.2.2,bi];rfl)) cm fun n b=>by
   exact cX 0 [.call (T n b)]) fun x a w=> ?_
 refine dQ a fun B f l=> ?_;have l:=gm▸l;have m:=ao (a9 (f_ 1 v)) s;have E:∃u∈x.2,u<9:=⟨x.2[0]'(l▸f_ 1 v▸Nat.zero_lt_succ v),k1 _,px (f _ (k1 _))⟩;rw[←jW] at w;refine q (cM x.2) x.1 (yW.of _ _ fun n b=> ?_) ⟨lc E,fun h=>aR (f 8 (fp.mp h).2.1) (gI 8),ao u' (l▸m)⟩ B;have i:1+v≤100000:=aD m rfl;have I:(f4 0 (jU (1+v))).length≤b4:=by rw[jW,aB,gm];exact aD i rfl
 exact aw 16 [.call (t n b),.le i,.le I,.sub (w n b),.call ((sH (Y:=Y) f) n b)]
theorem sw:∀{l:List d},(∀x∈l,f x≤c)→(l.map f).sum≤l.length*c:=by
 intro l;induction l with
 |nil=>
  exact fun _=>cA _
 |cons a l i=>
  intro h;rw[eE,n8,mY,SP,f_];exact dd (i fun x b=>h x (e9 _ b)) (h a (cU _))
noncomputable def dZ (k:List (List Nat)):aj:=.c (k.map a5)
noncomputable def bN (a:aK):aj:=.j [dZ a.hs,dZ a.os,dZ a.rs,dZ a.ts,ag a.c]
structure fb (a:aK):Prop where
 ok:a.Ok
 d:1≤a.hs.length
 h3:a.hs.length≤3
 c:a.os.length≤1
 t1:a.ts.length≤1
theorem sG {a:aK}:a.W=(a.hs.map fun k=>k.length+1).sum+(a.os.map fun k=>(cM (k++[8])).length+1).sum+(a.rs.map fun k=>k.length+1).sum+(a.ts.map fun k=>k.length+1).sum:=by
 unfold aK.W aK.els fH;rw[cm,cm,cm,cm,cm,cm,x',x',x'];simp only[eg];rfl
theorem Nn {a:aK} (h:fb a) (o:a.os=[]∨a.rs=[]) (l:∀k∈a.hs++a.os++a.rs++a.ts,k.length≤3):a.W≤20:=by
 have m {k:List Nat} (h:k∈a.hs∨k∈a.os∨k∈a.rs∨k∈a.ts):k.length≤3:=l k (by rw[ef,ef];exact h.elim (cG _) fun h=>eD _ (h.elim (cG _) fun h=>eD _ (dD.mpr h)));have s:=sw fun k b=>b3 (m (av b));have S:=sw (f:=fun k:List Nat=>(cM (k++[8])).length+1) fun k b=>b3 (ao u' (by refine ak bi ?_;exact b3 (m (aI (av b)))));have c:=sw fun k b=>b3 (m (aI (aI (av b))));have d:=sw fun k b=>b3 (m (aI (aI (aI b))));have e:=h.h3;have j:=h.c;have g:=h.ok.rs;exact ak sG (ux (h.ok.alt.imp fs.mpr fs.mpr) (fun y=>s6 (.c 1 .b (.w .f 4) (.c 1 .g (.w .j 5) (.c 1 .l (.w .o 4) (.c 1 .p (.w .q 4) (.c 4 .f (.n 3) (.c 4 .q .n1 (.c 4 .o .n1 (.c 5 .j .n0 (.g 1 (.a (.a (.a .b .g) .l) .p) (.n 20)))))))))) rfl s S c d e h.t1 g (a9 y)) fun y=>ux (o.imp fs.mpr fs.mpr) (fun i=>s6 (.c 1 .b (.w .f 4) (.c 1 .g (.w .j 5) (.c 1 .l (.w .o 4) (.c 1 .p (.w .q 4) (.c 4 .f (.n 3) (.c 4 .j .n1 (.c 4 .o .n1 (.c 4 .q .n0 (.c 1 .j .n0 (.g 1 (.a (.a (.a .b .g) .l) .p) (.n 20))))))))))) rfl s S c d e j g (a9 y) (a9 i)) fun i=>s6 (.c 1 .b (.w .f 4) (.c 1 .g (.w .j 5) (.c 1 .l (.w .o 4) (.c 1 .p (.w .q 4) (.c 4 .f (.n 3) (.c 5 .j .n1 (.c 3 .o .n1 (.c 4 .q .n0 (.c 1 .o .n0 (.g 1 (.a (.a (.a .b .g) .l) .p) (.n 20))))))))))) rfl s S c d e j g (a9 y) (a9 i))
theorem zq (h:0<b):eP .Mod (ag a) (ag b)=ac (ag (a%b)):=by
 show(if(0:Int)<(b:Int) then ac (ae (uu a b)) else ah)=_
 rw[aJ (show(0:Int)<(b:Int) from g5.mpr h),←Int.ofNat_fmod]
theorem rZ {os:List (List Nat)} (b:∀k∈s,pi k) (c:1≤s.length) (d:s.length≤3) (h:∀k∈os++rs++ts,pi k) (o:os.length≤1) (e:rs.length≤1) (t:ts.length≤1) (f:ts≠[]→rs≠[]) (g:os=[]∨ts=[]) (i:os=[]∨rs=[]) (j:r≤1):fb ⟨s,os,rs,ts,r⟩∧(⟨s,os,rs,ts,r⟩:aK).W≤20:=by
 have a:∀k∈s++os++rs++ts,pi k:=fun k m=>by
  rw[ef,ef,←ef os] at m;exact(dD.mp m).elim (b k) (h k)
 have S:fb ⟨s,os,rs,ts,r⟩:=⟨⟨e,f,fun k m=>⟨(a k m).nk,(a k m).a⟩,j,g⟩,c,d,o,t⟩;exact⟨S,Nn S i fun k m=>(a k m).l⟩
theorem sb (h:x<3):eP ut (ag x) (ae 2)=ac (ag (x/2)):=mj (P:=fun x=>eP ut (ag x) (ae 2)=ac (ag (x/2))) rfl rfl rfl h
theorem te (h:x<3):x/2≤1:=mj (P:=fun x=>x/2≤1) (aY rfl) (aY rfl) (aY rfl) h
abbrev vJ (c:b0) (Y:ar) (w:Bool):Prop:=∀{G:Prop},(∀a C,aE 3 280 [.a c,.l (aA w)] Y (bN a) [C] Y→fb a→a.W≤20→gz C→G)→G
theorem Aj (S:gz c) (Y:ar):vJ c Y false:=fun{G} q=>by
 refine fC (n:=3) S (aY rfl) Y fun v U T A V=> ?_
 refine qN (g:=280) [1] 0 59 ag (cv (1+v)) (fun x:b0×List (List Nat)=>x.2.map a5) (fun x=>[(74,.a x.1),(79,.l (aA ai))]) (fun _=>Y) (fun d x=>gz x.1∧(∀k∈x.2,pi k)∧x.2.length=d.length) (U,[]) ⟨V,(fun _ h=>(by cases h)),rfl⟩ rfl
  (fun θ j r x e E ι q=>rK E.1 Y fun k X Z α P=>q (X,x.2++[k]) [a5 k] ⟨P,i3 E.2.1 α,by rw[bi,E.2.2,bi];rfl⟩ cm fun n a=>by
   exact cX 0 [.call (Z n a)]) fun x E C=> ?_
 refine dQ E fun P u l=> ?_;have l:=gm▸l;rw[←jW] at C;have p:=ao (a9 (f_ 1 v)) A;have A:=l▸bu 1 v;have i:1+v≤100000:=aD p rfl;have I:(f4 0 (jU (1+v))).length≤b4:=by rw[jW,aB,gm];exact aD i rfl
 have p:=l▸p;have o {k:List Nat} (h:pi k):∀β∈[k],pi β:=tS.mpr h;refine fC (n:=6) P (aY rfl) Y fun w κ b _ Q=> ?_;induction W:(w==3) with
 |true=>
  cases dL.mp W;refine rK Q Y fun k γ f F L=>fC (n:=3) L (aY rfl) Y fun y B t m D=>(rZ (os:=[k]) (rs:=[]) u A p (o F) (bv 1) (cA 1) (cA 1) (fun h=>aR rfl h) (aI rfl) (aI rfl) (te m)).elim fun s z=>q _ B (yW.of _ _ fun n a=> ?_) s z D;have T:=T n (bl a rfl);have C:=C n a;have b:=b n (bl a rfl);have f:=f n a;have t:=t n (bl a rfl);exact aw 34603025 [.call T,.le i,.le I,.sub C,.call b,.call f,.call t,.w (sb m)]
 |false=>
  induction M:aM (3<w) with
  |true=>
   refine rK Q Y fun k γ f F L=> ?_;induction N:(w==5) with
   |true=>
    refine rK L Y fun μ B t δ D=>fC (n:=3) D (aY rfl) Y fun y ε ζ R η=>(rZ (os:=[]) (rs:=[k]) u A p (pp.mpr ⟨F,o δ⟩) (cA 1) (bv 1) (bv 1) (fun _ h=>(by injection h)) (av rfl) (av rfl) (te R)).elim fun s z=>q _ ε (yW.of _ _ fun n a=> ?_) s z η;have T:=T n (bl a rfl);have C:=C n a;have b:=b n (bl a rfl);have f:=f n a;have t:=t n a;exact aw 17 [.call T,.le i,.le I,.sub C,.call b,.x W,.y M,.call f,.x N,.call t,.call (ζ n (bl a rfl)),.w (sb R)]
   |false=>
    refine fC (n:=3) L (aY rfl) Y fun y B t m D=>(rZ (os:=[]) (rs:=[k]) u A p (o F) (cA 1) (bv 1) (cA 1) (fun h=>aR rfl h) (av rfl) (av rfl) (te m)).elim fun s z=>q _ B (yW.of _ _ fun n a=> ?_) s z D;have T:=T n (bl a rfl);have C:=C n a;have b:=b n (bl a rfl);have t:=t n (bl a rfl);exact aw 17 [.call T,.le i,.le I,.sub C,.call b,.x W,.y M,.call (f n a),.x N,.call t,.w (sb m)]
  |false=>
   have N:(w==5)=false:=c5.mpr fun e=>rk M (by rw[e];decide);refine fC (n:=3) Q (aY rfl) Y fun y B t m D=>(rZ (os:=[]) (rs:=[]) (ts:=[]) u A p (fun _ h=>(by cases h)) (cA 1) (cA 1) (cA 1) (fun h=>aR rfl h) (av rfl) (av rfl) (te m)).elim fun s z=>q _ B (yW.of _ _ fun n a=> ?_) s z D;exact aw 17 [.call (T n (bl a rfl)),.le i,.le I,.sub (C n a),.call (b n (bl a rfl)),.x W,.y M,.x N,.call (t n (bl a rfl)),.w (sb m)]
theorem AO {P:Nat→Prop} (h:P 0) (a:P 1) (b:P 2) (c:P 3):∀{p},p<4→P p:=tz (mj h a b) c
noncomputable def jz:Nat→List Nat
 |0=>[5,5]
 |1=>[5,6]
 |2=>[3,3,3]
 |_=>[3,3,2]
noncomputable def h_ (w z:Nat):List Nat:=(cv z).map fun g=>(w+g)%6
theorem w2:∀u∈h_ w z,u<6:=fun u h=>ay (cr.mp h) fun g _ e=>e▸Nat.mod_lt _ (aY rfl)
theorem Pu (hz:1≤z):gh (cM (h_ w z))∧8∉cM (h_ w z):=by
 have m:(w+0)%6∈h_ w z:=cr.mpr (bd 0 (hB.mpr hz) rfl);exact⟨lc (bd _ m (rr (w2 _ m) (aY rfl))),fun h=>aR (w2 8 (fp.mp h).2.1) (by decide)⟩
theorem Mc {g:b→Nat}:∀{l:List b},(∀x∈l,f x≤g x)→(l.map f).sum≤(l.map g).sum:=by
 intro l;induction l with
 |nil=>
  exact fun _=>bv _
 |cons a l i=>
  intro h;rw[eE,n8,eE,n8];exact dd (h a (cU _)) (i fun x c=>h x (e9 _ c))
theorem K4 {c:b0} (p:gz c) (Y:ar):vJ c Y true:=fun{G} q=>by
 refine fC (n:=4) p (aY rfl) Y fun v α t j y=>fC (n:=6) y (by decide) Y fun w C T β A=>fC (n:=2) A (aY rfl) Y fun r B E F M=> ?_;have g:=AO (P:=fun v=>ez (.c [.c [ae 5,ae 5],.c [ae 5,ae 6],.c [ae 3,ae 3,ae 3],.c [ae 3,ae 3,ae 2]]) (ag v)=ac (.c ((jz v).map ag))) rfl rfl rfl rfl j;have⟨N,Q,S,m⟩:((jz v).map (·+1)).sum≤20∧1≤(jz v).length∧(jz v).length≤3∧∀s∈jz v,1≤s∧s≤6:=AO (P:=fun v=>((jz v).map (·+1)).sum≤20∧1≤(jz v).length∧(jz v).length≤3∧∀s∈jz v,1≤s∧s≤6) (by decide) (by decide) (by decide) (by decide) j;have U:fb ⟨(jz v).map fun z=>cM (h_ w z),[],[],[],r⟩:=⟨⟨cA _,fun h=>aR rfl h,fun k o=>by
  rw[c8,c8,c8] at o;refine ay (cr.mp o) fun z V e=> ?_;exact e▸Pu (m z V).1,iW F,av rfl⟩,by rw[aB];exact Q,by rw[aB];exact S,cA _,cA _⟩
 have W:(⟨(jz v).map fun z=>cM (h_ w z),[],[],[],r⟩:aK).W≤20:=by
  rw[sG];rw[eg];exact ao (Mc fun z _=>b3 (ao u' (a9 (by unfold h_;rw[aB,gm])))) N
 refine q _ B (yW.of _ _ fun n f=> ?_) U W M;obtain⟨x,_,L⟩:=hr (n:=n) (g:=280) (b:=ah) [0,0,3] ag (jz v) (fun d (_:Unit)=>[(74,.a C),(79,.l (aA af)),(81,.l (ag v)),(84,.l (ag w)),(80,bE (.c ((d.map fun z=>cM (h_ w z)).map a5)))]) (fun _ _=>Y) (fun _ _=>True) () trivial rfl fun D z R x e _=>⟨(),a',trivial,av rfl,by
  have l:=fM (n:=n) (g:=280) [0,0,3,0] 0 54 ag (cv z) (fun g=>[ag ((w+g)%6)]) [(74,.a C),(79,.l (aA af)),(81,.l (ag v)),(84,.l (ag w)),(80,bE (.c ((D.map fun z=>cM (h_ w z)).map a5))),(85,.l (ag z))] Y fun g γ=>by
   exact cX 1 [.w (zq (a:=w+g) (b:=6) (aY rfl))]
  rw[←kd,←jW,show(cv z).map (fun g=>ag ((w+g)%6))=(h_ w z).map ag by unfold h_;rw[eg];rfl] at l;have i:z≤100000:=aD (m z (eO e)).2 rfl;have I:(f4 0 (jU z)).length≤b4:=by rw[jW,aB,gm];exact aD i rfl
  have X:fL 3 (.c ((D.map fun z=>cM (h_ w z)).map a5)) [a5 (cM (h_ w z))]=ac (a4,.c (((D++[z]).map fun z=>cM (h_ w z)).map a5)):=by
   rw[cm,cm];exact aJ (by rw[aB,aB];exact aD (ao (by rw[e,bi];exact bu _ _) S) rfl)
  exact bq 0 [.le i,.le I,.sub l,.call (sH (Y:=Y) (us:=h_ w z) (fun u Z=>rr (w2 u Z) (aY rfl)) n (bl f rfl)),.u X],rfl⟩
 exact aw 1 [.call (t n (bl f rfl)),.call (T n (bl f rfl)),.get g,.sub L,.call (E n (bl f rfl))]
noncomputable def bm (a:aK):List (List Nat):=a.hs++a.os++a.rs++a.ts
theorem gV:(bm a).length=a.hs.length+a.os.length+a.rs.length+a.ts.length:=by unfold bm;rw[bi,bi,bi]
theorem fb.small (h:fb a):(bm a).length≤5∧1≤(bm a).length:=by
 have f:=h.d;have g:=h.h3;have i:=h.c;have j:=h.t1;have k:=h.ok.rs;have e:=h.ok.alt.imp fs.mpr fs.mpr;refine ak gV ?_;lia
theorem vG (h:x.length+y.length≤1000000):eP b9 (dZ x) (dZ y)=ac (dZ (x++y)):=by
 unfold dZ;refine ak cm ?_;exact aJ (by rw[aB,aB];exact h)
theorem rS (l:(bm a).length≤100):aE 1 281 [.l (bN a)] Y (dZ (bm a)) [] Y:=yW.of _ _ fun n c=>by
 have h:a.hs.length+a.os.length+a.rs.length+a.ts.length≤1000000:=gV▸aD l rfl;have b:=ao (bu _ _) h;exact aw 274 [.w (vG (ao (bu _ _) b)),.w (vG (y:=a.rs) (by rw[bi];exact b)),.w (vG (x:=a.hs++a.os++a.rs) (y:=a.ts) (by rw[bi,bi];exact h))]
theorem kL (h:l.length≤1000000):fL 3 (.c l) [x]=ac (a4,.c (l++[x])):=aJ h
noncomputable def fa (p:Nat) (k:List Nat) (a:Nat) (g:List (List Nat)):List (List Nat):=g.zipIdx.map fun x=>if a+x.2=p then k else x.1
theorem kJ:(fa p k a g).length=g.length:=by unfold fa;rw[aB,pu]
theorem F6:∀x∈fa p k a g,x∈g∨x=k:=fun x h=>by
 refine ay (cr.mp h) fun y b e=> ?_;rw[←e];split
 ·exact aI rfl
 ·exact av (eR (nH b))
noncomputable def iC (p:Nat) (k:List Nat) (a:aK):aK:=⟨fa p k 0 a.hs,fa p k a.hs.length a.os,fa p k (a.hs.length+a.os.length) a.rs,fa p k (a.hs.length+a.os.length+a.rs.length) a.ts,a.c⟩
noncomputable def kE (p:Nat) (k:List Nat):Nat→List (List (List Nat))→List (List (List Nat))
 |_,[]=>[]
 |i,g::r=>fa p k i g::kE p k (i+g.length) r
noncomputable def lm (d:List (List (List Nat))):Nat:=(d.map gK).sum
theorem IL:∀{d:List (List (List Nat))} {i:Nat},kE p k i (d++[g])=kE p k i d++[fa p k (i+lm d) g]:=by
 intro d;induction d with
 |nil=>
  intro i;rfl
 |cons h d I=>
  intro i;show fa p k i h::kE p k (i+h.length) (d++[g])=_;rw[I,ev];rfl
theorem LY:∀{d:List (List (List Nat))} {i:Nat},(kE p k i d).length=d.length:=by
 intro d;induction d with
 |nil=>
  intro _;rfl
 |cons _ d I=>
  intro _;exact aS (·+1) (I)
noncomputable def o1 (a:aK) (p:Nat) (k:List Nat) (X:List (List (List Nat))) (i:Nat):au:=[(20,.l (bN a)),(11,.l (ag p)),(76,.l (a5 k)),(86,bE (.c (X.map dZ))),(48,.l (ag i))]
theorem Pc (h:g.length≤100):
  ca bw (aZ n) (dR 282 [2,1] ah (g.map a5) (o1 a p k X i++[(87,.l (dZ g)),(32,bE (.c []))]) Y) a' (o1 a p k X (i+g.length)++[(87,.l (dZ g)),(32,bE (.c ((fa p k i g).map a5)))]) Y:=by
 obtain⟨x,_,L⟩:=hr (n:=n) (g:=282) (b:=ah) [2,1] (fun x=>a5 x.1) g.zipIdx (fun d (_:Unit)=>o1 a p k X (i+d.length)++[(87,.l (dZ g)),(32,bE (.c ((d.map fun x=>if i+x.2=p then k else x.1).map a5)))]) (fun _ _=>Y) (fun _ _=>True) () trivial rfl fun D j r x e _=>⟨(),a',trivial,av rfl,by
  refine dQ (tc e) fun E _ m=> ?_;have A (y:List Nat):=kL (l:=(D.map fun x=>if i+x.2=p then k else x.1).map a5) (x:=a5 y) (by rw[aB,aB];exact ao (gJ m) (aD h rfl))
  refine ak cm (ak cm (ak bi ((ak E ?_):fc _ _ _ _ _ _ _ _ (o1 a p k X (i+(D.length+1))++[(87,.l (dZ g)),(32,bE (.c (_++[a5 (if i+j.2=p then k else j.1)])))]) _)))
  generalize(D.map fun x=>if i+x.2=p then k else x.1).map a5=q at A
  induction c:(i+D.length==p) with
  |true=>
   have A:=A k;refine ak (aJ (dL.mp c)) ?_;exact bq 0 [.x c,.u A]
  |false=>
   have A:=A j.1;refine ak (aL (c5.mp c)) ?_;exact bq 0 [.x c,.u A],rfl⟩
 have o:g.zipIdx.map (fun x=>a5 x.1)=g.map a5:=(eg (f:=yA) ..).symm.trans (aS (List.map a5) (xW 0 g));rw[o,pu] at L;exact L
theorem J6 {a b c d n:Nat} (h:a+b+c+d≤n):a≤n∧b≤n∧c≤n∧d≤n:=nf (pm (pm (pm h))) (ao (gH ..) (pm (pm h))) (ao (gH ..) (pm h)) (ao (gH ..) h)
theorem wk (h:(bm a).length≤100):aE 1 282 [.l (bN a),.l (ag p),.l (a5 k)] Y (bN (iC p k a)) [] Y:=yW.of _ _ fun n f=>by
 have c:∀g∈[a.hs,a.os,a.rs,a.ts],g.length≤100:=by
  rw[gV] at h;simp only[pp,kh,false_implies,implies_true,and_true];exact J6 h
 obtain⟨x,_,L⟩:=hr (g:=282) (b:=ah) [2] dZ [a.hs,a.os,a.rs,a.ts] (fun d (_:Unit)=>o1 a p k (kE p k 0 d) (lm d)) (fun _ _=>Y) (fun _ _=>True) () trivial rfl fun D g r x e _=>⟨(),a',trivial,av rfl,by
  have w:=Pc (n:=n) (p:=p) (i:=lm D) (a:=a) (k:=k) (X:=kE p k 0 D) (Y:=Y) (c g (eO e));have A:=kL (l:=(kE p k 0 D).map dZ) (x:=dZ (fa p k (lm D) g)) (by
   rw[aB,LY];have:=aS gK e;rw[bi] at this;exact ao (bu _ _) (ao (a9 this.symm) (show 4≤1000000 by decide)))
  rw[IL,jI,show lm (D++[g])=lm D+g.length by unfold lm;rw[cm,x'];rfl];have E:(kE p k 0 D++[fa p k (lm D) g]).map dZ=(kE p k 0 D).map dZ++[dZ (fa p k (lm D) g)]:=cm;unfold o1 at w⊢;refine ak E ?_;exact bq 0 [.sub w,.u A],rfl⟩
 have E:kE p k 0 [a.hs,a.os,a.rs,a.ts]=[(iC p k a).hs,(iC p k a).os,(iC p k a).rs,(iC p k a).ts]:=by
  show[fa p k 0 a.hs,fa p k (0+a.hs.length) a.os,fa p k (0+a.hs.length+a.os.length) a.rs,fa p k (0+a.hs.length+a.os.length+a.rs.length) a.ts]=_;rw[jI];rfl
 rw[E] at L;exact aw 1 [.sub L]
abbrev e3 (k:List Nat):Prop:=gh k∧8∉k
theorem e3.sub (h:e3 k) (s:k'.Sublist k) (l:0<k'.length):e3 k':=
 ⟨(kG (jf.mp l) (h.1.2.1.sublist s) (fun u d=>h.1.2.2.1 u (s.subset d)) (fun c=>⟨fun b=>(h.1.2.2.2.1 (s.subset c)).1 (s.subset b),fun b=>(h.1.2.2.2.1 (s.subset c)).2 (s.subset b)⟩) (fun e f=>h.1.2.2.2.2 (s.subset e) (s.subset f))),fun g=>h.2 (s.subset g)⟩
theorem fb.kk (h:fb a):∀k∈bm a,e3 k:=h.ok.nk
theorem tG:fa p k a g=[]↔g=[]:=by
 rw[←fs,kJ,fs]
theorem fb.put (h:fb a) (i:e3 k):fb (iC p k a)∧(bm (iC p k a)).length=(bm a).length:=by
 have m {x:List Nat} {A:Nat} {g:List (List Nat)} (s:g.Subset (bm a)) (f:x∈fa p k A g):e3 x:=(F6 x f).elim (fun e=>h.kk x (s e)) fun e=>e▸i;refine⟨⟨⟨ao (a9 kJ) h.ok.rs,fun t e=>h.ok.ts (fun e=>t (tG.mpr e)) (tG.mp e),fun x f=> ?_,h.ok.c,h.ok.alt.imp tG.mpr tG.mpr⟩,ao h.d (a9 kJ.symm),ao (a9 kJ) h.h3,ao (a9 kJ) h.c,ao (a9 kJ) h.t1⟩, ?_⟩
 ·refine(dD.mp f).elim (fun f=>(dD.mp f).elim (fun f=>(dD.mp f).elim (m ?_) (m ?_)) (m ?_)) (m ?_)
  ·exact fun _ h=>cG _ (cG _ (cG _ h))
  ·exact fun _ h=>cG _ (cG _ (eD _ h))
  ·exact fun _ h=>cG _ (eD _ h)
  ·exact fun _ h=>eD _ h
 ·rw[gV,gV];show(fa ..).length+(fa ..).length+(fa ..).length+(fa ..).length=_;rw[kJ,kJ,kJ,kJ]
theorem Fw:ez (.c (l++[x])) (ae (-1))=ac x:=by
 show(i2 (-1) (l++[x]).length).bind (fun j=>(l++[x])[j]?)=_;have:i2 (-1) (l++[x]).length=ac l.length:=by
  unfold i2;refine ak bi (ak (aL (by decide)) ?_);refine ak (aJ (show 0≤((l.length+1:Nat):Int)+ -1 from Ed.mpr (gq.mpr (gH 1 l.length)))) ?_;exact aS ac (rq (l.length+1) 1)
 exact ak this (List.getElem?_concat_length)
theorem xN {a:Nat} (h:a≤l.length):f9 ah (ac (a:Int)) (.c l)=ac (.c (l.take a)):=by
 show ac (aj.c (dH l ah (ac (a:Int))))=_;unfold dH lH;simp[t9 h]
theorem Pv:fL 2 (.c (l++[x])) []=ac (x,.c l):=by
 show(match(l++[x]).getLast? with|some d=>ac (d,b0.c (l++[x]).dropLast)|none=>ah)=_
 refine ak (Rr) (ak Ru ?_);rfl
noncomputable def AR (a:aK) (s:Nat) (x:b0×List aK×aK):au:=[(74,.a x.1),(20,.l (bN a)),(23,bE (.c (x.2.1.map bN++[bN x.2.2]))),(89,.l (ag (bm a).length)),(84,.l (ag s))]
structure SZ (a:aK) (d:List Nat) (x:b0×List aK×aK):Prop where
 D:gz x.1
 hb:∀b∈x.2.1,fb b
 sl:fb x.2.2
 g:(bm x.2.2).length=(bm a).length
 l:x.2.1.length≤d.length
theorem LA {a:aK} (ε:gz c) (S:fb a) (Y:ar) {G:Prop} (q:∀(B:List aK) U,aE 2 283 [.a c,.l (bN a)] Y (.c (B.map bN)) [U] Y→1≤B.length→B.length≤7→(∀b∈B,fb b)→gz U→G):G:=by
 refine S.small.elim fun V L=> ?_;have A:(bm a).length≤100:=aD V rfl;refine fC ε L Y fun s τ t υ D=>fC (n:=(bm a).length+1) D (m3 _) Y fun v ζ T η d=> ?_;have M:1+v≤6:=ao (f_ 1 v▸η) (b3 V)
 refine kR (N:=(1≤·)) (g:=283) (b:=ah) [3] ag (cv (1+v)) (AR a s) (fun _=>Y) (SZ a) (ζ,[],a) ⟨d,(fun _ h=>(by cases h)),S,rfl,bv _⟩ rfl
  (fun φ j r x e o χ q=> ?_) fun x o W=> ?_
 ·clear t T;have E:=ao (by rw[←gm (n:=1+v),e,bi];exact bu _ _) M;have X:=ao o.l E;have P:=zq (a:=s+j) L;have Z:(s+j)%(bm a).length<(bm x.2.2).length:=by rw[o.g];exact Nat.mod_lt _ L
  generalize(s+j)%(bm a).length=p at P Z;have⟨k,α⟩:∃k,(bm x.2.2)[p]? =ac k:=⟨_,cS Z⟩;have Q:=o.sl.kk k (eR α);have β:=Fw (l:=x.2.1.map bN) (x:=bN x.2.2);have f:=o.g▸A;have C:=rS (Y:=Y) f;have γ:ez (.c ((bm x.2.2).map a5)) (ag p)=ac (a5 k):=dF (by rw[dX,α];rfl);have R:k.length≤16777216:=aD Q.1.len rfl;induction c:aM (1<k.length) with
  |false=>
   refine q x ⟨o.D,o.hb,o.sl,o.g,ao o.l (by rw[bi];exact bu _ _)⟩ rfl fun n u=> ?_;have C:=C n u;exact bq 1 [.w P,.get β,.call C,.get γ,.p (ds:=k.map ag) (aB _) R,.y c]
  |true=>
   refine fC o.D (tZ (dB c)) Y fun w θ ι δ κ=> ?_;have z:1+w<k.length:=b5 (.c 1 (.a .b .n1) .f (.c 1 (.a .f .n1) .g (.g 1 (.a (.a .n1 .b) .n1) .g))) rfl δ (a9 (fi (b5 (.c 1 (.a .b .n1) .f (.c 1 .f .g (.g 1 .n1 .g))) rfl δ (it (k.length) (1)))));have μ:=Q.sub (RU _ _) (by rw[rg];exact tZ z);refine(o.sl.put (p:=p) (Q.sub (DW _ _) (by rw[Dz (gJ z)];exact f_ 1 w▸m3 w))).elim fun ν ψ=> ?_;refine(o.sl.put (p:=p) μ).elim fun y F=> ?_;have ξ:eP fU (ag k.length) (ae 1)=ac (ag (k.length-1)):=aS (fun i=>ac (ae i)) (yh (ao (bu 1 w) (gJ z))).symm;have ο:f9 ah (ac (1+(w:Int))) (.c (k.map ag))=ac (a5 (k.take (1+w))):=(xN (by rw[aB];exact gJ z)).trans (by unfold a5;rw[rp]);have π:f9 (ac (1+(w:Int))) ah (.c (k.map ag))=ac (a5 (k.drop (1+w))):=(qp).trans (by unfold a5;rw[yg]);have m:=kL (l:=(x.2.1++[iC p (k.take (1+w)) x.2.2]).map bN) (x:=bN (iC p (k.drop (1+w)) x.2.2)) (by rw[aB,bi];exact aD (b3 X) rfl);refine q (θ,x.2.1++[iC p (k.take (1+w)) x.2.2],iC p (k.drop (1+w)) x.2.2) ⟨κ,fun b h=>(dD.mp h).elim (o.hb b) fun h=>bW.mp h▸ν,y,F.trans o.g,by rw[bi,bi];exact b3 o.l⟩ rfl fun n u=> ?_;unfold AR;rw[cm] at m⊢;exact bq 68719476737 [.w P,.get β,.call (C n u),.get γ,.p (ds:=k.map ag) (aB _) R,.y c,.p (ds:=k.map ag) (aB _) R,.w ξ,.call (ι n u),.u (Pv (l:=x.2.1.map bN) (x:=bN x.2.2)),.cut ο,.call ((wk (p:=p) (k:=k.take (1+w)) (Y:=Y) f) n u),.u (kL (l:=x.2.1.map bN) (x:=bN (iC p (k.take (1+w)) x.2.2)) (by rw[aB];exact aD X rfl)),.cut π,.call ((wk (p:=p) (k:=k.drop (1+w)) (Y:=Y) f) n u),.u m]
 ·have ρ:=rS (Y:=Y) A;have σ:(bm a).length≤16777216:=aD A rfl;have I:1+v≤100000:=aD M rfl;have E:=ao (gm▸o.l) M;rw[←jW] at W;refine q (x.2.1++[x.2.2]) x.1 (yW.of _ _ fun n u=> ?_) (by rw[bi];exact m3 _) (by refine ak bi ?_;exact b3 E) (fun b h=>(dD.mp h).elim (o.hb b) fun h=>bW.mp h▸o.sl) o.D;refine ak cm ?_;exact aw 69632 [.call (ρ n u),.p (ds:=(bm a).map a5) (aB _) σ,.call (t n u),.call (T n u),.le I,.sub (W n u)]
structure ij (b:aK):Prop where
 ok:b.Ok
 c:(bm b).length≤5
 sh:0<b.fr∨∃k,b=⟨[],[],[k],[],b.c⟩
theorem fb.b (h:fb a):ij a:=⟨h.ok,h.small.1,av (ft h.d (bu _ _))⟩
theorem vb {us:List a} (h:1≤us.length):f9 ah (ac (-1)) (.c (us.map f))=ac (.c ((us.take (us.length-1)).map f))∧f9 (ac (-1)) ah (.c (us.map f))=ac (.c ((us.drop (us.length-1)).map f)):=by
 have e:lH (-1) us.length=us.length-1:=by
  unfold lH;rw[aL (by decide)];exact(aS Int.toNat (SS ..)).trans (rq us.length 1)
 refine⟨?_, ?_⟩
 ·show ac (aj.c (dH (us.map f) ah (ac (-1))))=_;unfold dH;rw[aB,rp];show ac (aj.c (((us.map f).drop 0).take (lH (-1) us.length-0)))=_;refine ak e ?_;rfl
 ·show ac (aj.c (dH (us.map f) (ac (-1)) ah))=_;unfold dH;rw[aB,yg];show ac (aj.c (((us.map f).take us.length).drop (lH (-1) us.length)))=_;rw[e,Dy (by rw[aB];exact bv _)]
theorem nm {m:List a} (h:l.length+m.length≤1000000):eP b9 (.c (l.map f)) (.c (m.map f))=ac (.c ((l++m).map f)):=by
 rw[cm];exact aJ (by rw[aB,aB];exact h)
theorem oI (h:fb a) (c:e3 k) (d:b.rs.length≤1) (f:b.ts≠[]→b.rs≠[]) (g:∀x∈bm b,x∈bm a∨x=k) (i:b.c≤1) (j:b.os=[]∨b.ts=[]) (l:(bm b).length≤5) (m:0<b.fr∨∃k,b=⟨[],[],[k],[],b.c⟩):ij b:=
 ⟨⟨d,f,fun x n=>(g x n).elim (h.kk x) fun e=>e▸c,i,j⟩,l,m⟩
structure gF (c C h:b0) (a:aK) (p:Nat) (k:List Nat) (Y:ar) (w:Nat):Prop where
 sa:fb a
 t1:aE 1 277 [.a c,.l (ae 13)] Y (ag w) [C] Y
 t2:aE 1 277 [.a C,.l (ag (bm a).length)] Y (ag p) [h] Y
 D:gz h
 f:(bm a)[p]? =ac k
def i7 (c:b0) (a:aK) (Y:ar):Prop:=∀{G:Prop},(∀b C,aE 2 284 [.a c,.l (bN a)] Y (bN b) [C] Y→ij b→gz C→G)→G
section
theorem gF.c0 (h:gF c C j a p k Y w):aE 1 281 [.l (bN a)] Y (dZ (bm a)) [] Y:=rS (aD h.sa.small.1 rfl)
theorem gF.d (h:gF c C j a p k Y w):(bm a).length≤16777216:=aD h.sa.small.1 rfl
theorem gF.b (h:gF c C j a p k Y w):ez (.c ((bm a).map a5)) (ag p)=ac (a5 k):=dF (by rw[dX,h.f];rfl)
theorem gF.kk (h:gF c C j a p k Y w):e3 k:=h.sa.kk k (eR h.f)
theorem gF.i (h:gF c C j a p k Y w):k.length≤16777216:=aD h.kk.1.len rfl
theorem gF.g (h:gF c C j a p k Y w):1≤k.length:=jf.mpr h.kk.1.1
theorem gF.e (h:gF c C j a p k Y w) (k':List Nat):aE 1 282 [.l (bN a),.l (ag p),.l (a5 k')] Y (bN (iC p k' a)) [] Y:=wk (aD h.sa.small.1 rfl)
theorem gF.put (h:gF c l C a p k Y w) (j:e3 k') (r:aE 2 284 [.a c,.l (bN a)] Y (bN (iC p k' a)) [C] Y):i7 c a Y:=fun{G} q=>q _ C r (h.sa.put j).1.b h.D
theorem Cy (h:∃u∈k,u<9) (a:∀u∈k,u<8):e3 (cM k):=⟨lc h,fun h=>aR (a 8 (fp.mp h).2.1) (gI 8)⟩
theorem e3.lt (h:e3 k) (b:u∈k):u<8:=(x2 (iW (h.1.2.2.1 u b))).resolve_right fun e=>h.2 (e▸b)
theorem Iz (h:gF c e g a p k Y 0):i7 c a Y:=by
 induction d:aM (1<k.length) with
 |true=>
  refine h.put (k':=k.take (k.length-1)) (h.kk.sub (DW _ _) (by rw[Dz (it _ _)];exact tZ (dB d))) (yW.of _ _ fun n b=> ?_);have C:=h.c0 n b;exact aw 16777216 [.call (h.t1 n b),.call C,.p (ds:=(bm a).map a5) (aB _) h.d,.call (h.t2 n b),.call C,.get h.b,.p (ds:=k.map ag) (aB _) h.i,.y d,.cut ((vb (f:=ag) h.g).1),.call (h.e (k.take (k.length-1)) n b)]
 |false=>
  refine h.put (k':=k) h.kk (yW.of _ _ fun n b=> ?_);have C:=h.c0 n b;exact aw 16777216 [.call (h.t1 n b),.call C,.p (ds:=(bm a).map a5) (aB _) h.d,.call (h.t2 n b),.call C,.get h.b,.p (ds:=k.map ag) (aB _) h.i,.y d,.call (h.e k n b)]
theorem HW (h:gF c j l a p k Y 1):i7 c a Y:=fun{G} q=>by
 refine fC (n:=8) h.D (aY rfl) Y fun u g t d D=> ?_;have U:∀x∈k++[u],x<8:=fun x i=>(dD.mp i).elim h.kk.lt fun e=>bW.mp e▸d;refine q _ g (yW.of _ _ fun n b=> ?_) (h.sa.put (p:=p) (Cy (bd u (eD _ (cU _)) (px d)) U)).1.b D;have C:=h.c0 n b;exact aw 33554432 [.call (h.t1 n b),.call C,.p (ds:=(bm a).map a5) (aB _) h.d,.call (h.t2 n b),.call C,.get h.b,.call (t n b),.w (nm (f:=ag) (m:=[u]) (aD (b3 h.kk.1.len) rfl)),.call ((sH (Y:=Y) U) n b),.call (h.e (cM (k++[u])) n b)]
theorem Mg (h:gF c d e a p k Y 2):i7 c a Y:=by
 refine h.put (k':=k.take 1) (h.kk.sub (DW _ _) (by rw[Dz h.g];exact Nat.one_pos)) (yW.of _ _ fun n b=> ?_);have C:=h.c0 n b;have t:f9 ah (ac 1) (.c (k.map ag))=ac (a5 (k.take 1)):=(xN (by rw[aB];exact h.g)).trans (by unfold a5;rw[rp]);exact aw 67108864 [.call (h.t1 n b),.call C,.p (ds:=(bm a).map a5) (aB _) h.d,.call (h.t2 n b),.call C,.get h.b,.cut t,.call (h.e (k.take 1) n b)]
theorem IH (h:gF c d e a p k Y 8):i7 c a Y:=by
 refine h.put (k':=k.drop (k.length-1)) (h.kk.sub (RU _ _) (by rw[rg];have:=h.g;exact b5 (.c 1 .b (.a .f .g) (.c 1 (.a .g .n1) .b (.g 1 (.a .n0 .n1) .f))) rfl (g3.mp (bv (k.length-(k.length-1)))) (a9 (fi this)))) (yW.of _ _ fun n b=> ?_);have C:=h.c0 n b;exact aw 83886080 [.call (h.t1 n b),.call C,.p (ds:=(bm a).map a5) (aB _) h.d,.call (h.t2 n b),.call C,.get h.b,.cut ((vb (f:=ag) h.g).2),.call (h.e (k.drop (k.length-1)) n b)]
theorem GL (h:gF c j e a p k Y 3):i7 c a Y:=fun{G} q=>by
 have r:=h.sa.ok.c;have b:eP fU (ae 1) (ag a.c)=ac (ag (1-a.c)):=aS (fun i=>ac (ae i)) (yh r).symm;refine q {a with c:=1-a.c} e (yW.of _ _ fun n d=> ?_) (oI h.sa h.kk h.sa.ok.rs h.sa.ok.ts (fun x f=>av f) (it _ _) h.sa.ok.alt h.sa.small.1 (av (ft h.sa.d (bu _ _)))) h.D;have t:=h.t2 n d;have C:=h.c0 n d;have l:=h.d;have g:=h.b;exact aw 83886080 [.call (h.t1 n d),.call C,.p (ds:=(bm a).map a5) (aB _) l,.call t,.call C,.get g,.w b]
theorem gF.ls (h:gF c C j a p k Y w):a.os.length≤16777216∧a.rs.length≤16777216∧a.ts.length≤16777216:=
 ⟨aD h.sa.c rfl,aD h.sa.ok.rs rfl,aD h.sa.t1 rfl⟩
theorem IG (h:gF c o g a p k Y 4):i7 c a Y:=fun{G} q=>by
 refine dQ h.ls fun L r l=> ?_;induction D:(a.ts.length==0) with
 |false=>
  refine q a g (yW.of _ _ fun n b=> ?_) h.sa.b h.D;have C:=h.c0 n b;exact aw 100663296 [.call (h.t1 n b),.call C,.p (ds:=(bm a).map a5) (aB _) h.d,.call (h.t2 n b),.call C,.get h.b,.p (ds:=a.ts.map a5) (aB _) l,.x D]
 |true=>
  induction d:(a.os.length==0) with
  |false=>
   refine q a g (yW.of _ _ fun n b=> ?_) h.sa.b h.D;have C:=h.c0 n b;exact aw 100663296 [.call (h.t1 n b),.call C,.p (ds:=(bm a).map a5) (aB _) h.d,.call (h.t2 n b),.call C,.get h.b,.p (ds:=a.ts.map a5) (aB _) l,.x D,.p (ds:=a.os.map a5) (aB _) L,.x d]
  |true=>
   have e:bm ⟨a.hs.take (a.hs.length-1),a.hs.drop (a.hs.length-1),a.rs,a.ts,a.c⟩=bm a:=by
    unfold bm;rw[(fs.mp (dL.mp d)),c8];rw[Rm]
   refine(vb (f:=a5) h.sa.d).elim fun i j=> ?_;refine q ⟨a.hs.take (a.hs.length-1),a.hs.drop (a.hs.length-1),a.rs,a.ts,a.c⟩ g (yW.of _ _ fun n b=> ?_) (oI h.sa h.kk h.sa.ok.rs h.sa.ok.ts (fun x m=>av (e▸m)) h.sa.ok.c (aI (fs.mp (dL.mp D))) (e▸h.sa.small.1) (av (by
    show 0<(a.hs.take _).length+(a.hs.drop _).length;rw[←bi,Rm];exact h.sa.d))) h.D
   have C:=h.c0 n b;exact aw 100663296 [.call (h.t1 n b),.call C,.p (ds:=(bm a).map a5) (aB _) h.d,.call (h.t2 n b),.call C,.get h.b,.p (ds:=a.ts.map a5) (aB _) l,.x D,.p (ds:=a.os.map a5) (aB _) L,.x d,.cut i,.cut j]
theorem Jb (h:gF c r g a p k Y 5):i7 c a Y:=fun{G} q=>by
 refine dQ h.ls fun o L l=> ?_;induction D:(a.ts.length==0) with
 |false=>
  refine q a g (yW.of _ _ fun n b=> ?_) h.sa.b h.D;have C:=h.c0 n b;exact aw 117440512 [.call (h.t1 n b),.call C,.p (ds:=(bm a).map a5) (aB _) h.d,.call (h.t2 n b),.call C,.get h.b,.p (ds:=a.ts.map a5) (aB _) l,.x D]
 |true=>
  induction d:(a.rs.length==0) with
  |false=>
   refine q a g (yW.of _ _ fun n b=> ?_) h.sa.b h.D;have C:=h.c0 n b;exact aw 117440512 [.call (h.t1 n b),.call C,.p (ds:=(bm a).map a5) (aB _) h.d,.call (h.t2 n b),.call C,.get h.b,.p (ds:=a.ts.map a5) (aB _) l,.x D,.p (ds:=a.rs.map a5) (aB _) L,.x d]
  |true=>
   have E:=fs.mp (dL.mp d);have e:=fs.mp (dL.mp D);have i:bm ⟨a.hs,a.os++[k],a.rs,a.ts,a.c⟩=bm a++[k]:=by
    unfold bm;rw[E,e,c8,c8,c8,c8,ef]
   refine q ⟨a.hs,a.os++[k],a.rs,a.ts,a.c⟩ g (yW.of _ _ fun n b=> ?_) (oI h.sa h.kk h.sa.ok.rs h.sa.ok.ts (fun x j=>(dD.mp (i▸j)).imp id bW.mp) h.sa.ok.c (aI e) (by
    rw[i,bi,gV,E,e];exact b3 (dd h.sa.h3 h.sa.c)) (av (ft h.sa.d (bu _ _)))) h.D
   have C:=h.c0 n b;exact aw 117440512 [.call (h.t1 n b),.call C,.p (ds:=(bm a).map a5) (aB _) h.d,.call (h.t2 n b),.call C,.get h.b,.p (ds:=a.ts.map a5) (aB _) l,.x D,.p (ds:=a.rs.map a5) (aB _) L,.x d,.w (nm (f:=a5) (m:=[k]) (aD (b3 h.sa.c) rfl))]
theorem I7 (h:gF c A m a p k Y 6):i7 c a Y:=fun{G} q=>by
 have⟨B,L,D⟩:=h.ls;have b:=nm (f:=a5) (aD (dd h.sa.h3 h.sa.t1) rfl);have s {x y:List (List Nat)}:0<aK.fr ⟨a.hs++a.ts,a.os,x,y,a.c⟩:=ft h.sa.d (by
  show _≤(a.hs++a.ts).length+_;rw[bi];exact ao (bu _ _) (bu _ _))
 have u:=h.sa.small.1;rw[gV] at u;have w:=h.sa.h3;have o:=h.sa.c;induction d:aM (0<a.rs.length) with
 |false=>
  have E:=fs.mp (Nat.eq_zero_of_not_pos (rk d));have v:=gl fun z=>h.sa.ok.ts z E;have e:bm ⟨a.hs++a.ts,a.os,[k],[],a.c⟩=bm a++[k]:=by
   unfold bm;rw[E,v,c8,c8,c8,c8]
  refine q ⟨a.hs++a.ts,a.os,[k],[],a.c⟩ m (yW.of _ _ fun n i=> ?_) (oI h.sa h.kk (bv 1) (fun h=>aR rfl h) (fun x j=>(dD.mp (e▸j)).imp id bW.mp) h.sa.ok.c (aI rfl) (by
   rw[e,bi,gV,E,v];exact b3 (dd w o)) (av s)) h.D
  have t:=h.t1 n i;have T:=h.t2 n i;have C:=h.c0 n i;have l:=h.d;have g:=h.b;exact aw 134217728 [.call t,.call C,.p (ds:=(bm a).map a5) (aB _) l,.call T,.call C,.get g,.w b,.p (ds:=a.rs.map a5) (aB _) L,.y d]
 |true=>
  have r:=dB d;have e:bm ⟨a.hs++a.ts,a.os,[],[],a.c⟩=a.hs++a.ts++a.os:=by
   unfold bm;rw[c8,c8]
  refine q ⟨a.hs++a.ts,a.os,[],[],a.c⟩ m (yW.of _ _ fun n i=> ?_) (oI h.sa h.kk (cA 1) (fun h=>aR rfl h) (fun x j=>av ((dD.mp (e▸j)).elim (fun j=>(dD.mp j).elim (fun h=>cG _ (cG _ (cG _ h))) (eD _)) fun h=>cG _ (cG _ (eD _ h)))) h.sa.ok.c (aI rfl) (by
   rw[e,bi,bi];exact b7 (.c 1 (.a (.a (.a .b .f) .g) .j) (.n 5) (.g 1 (.a (.a .b .j) .f) (.n 5))) rfl u) (av s)) h.D
  have t:=h.t1 n i;have T:=h.t2 n i;have C:=h.c0 n i;have l:=h.d;have g:=h.b;exact aw 134217728 [.call t,.call C,.p (ds:=(bm a).map a5) (aB _) l,.call T,.call C,.get g,.w b,.p (ds:=a.rs.map a5) (aB _) L,.y d]
noncomputable def Cz:List (List Nat)→ig
 |[]=>bE (.c [])
 |d=>.l (a5 d.flatten)
theorem Pg (h:gF c γ U a p k Y 7):i7 c a Y:=fun{G} q=>by
 refine h.sa.small.elim fun L l=> ?_;have F {d r:List (List Nat)} (e:bm a=d++r):d.flatten.length≤9*d.length:=by
  have:∀d:List (List Nat),(∀x∈d,x.length≤9)→d.flatten.length≤9*d.length:=fun d=>by
   induction d with
   |nil=>exact fun _=>bv _
   |cons x d i=>
    intro h;rw[DZ,bi,mY,Eu,f_];exact dd (i fun y α=>h y (e9 _ α)) (h x (cU _))
  exact this d fun x j=>(h.sa.kk x (e▸cG _ j)).1.len
 have v:∀u∈(bm a).flatten,u<8:=fun u w=>ay (t3.mp w) fun x j β=>(h.sa.kk x j).lt β;have I:∃u∈(bm a).flatten,u<9:=by
  have m:=k1 l;exact(nS _ (h.sa.kk _ m).1.1).elim fun u w=>⟨u,t3.mpr ⟨_,m,w⟩,px (v u (t3.mpr ⟨_,m,w⟩))⟩
 have M:=Cy I v;refine q ⟨[],[],[cM (bm a).flatten],[],a.c⟩ U (yW.of _ _ fun n A=> ?_) (oI h.sa M (bv 1) (fun h=>aR rfl h) (fun x j=>aI (bW.mp j)) h.sa.ok.c (av rfl) (by refine(?_:1≤5);decide) (aI ⟨_,rfl⟩)) h.D;have t:=h.t1 n A;have T:=h.t2 n A;have C:=h.c0 n A;have N:=h.d;have P:=h.b;have Q:=sH (Y:=Y) v n A;obtain⟨x,_,S⟩:=hr (n:=n) (g:=284) (b:=ah) [11,0,1] a5 (bm a) (fun d (_:Unit)=>[(74,.a U),(20,.l (bN a)),(80,.l (dZ a.hs)),(82,.l (dZ a.os)),(66,.l (dZ a.rs)),(83,.l (dZ a.ts)),(7,.l (ag a.c)),(81,.l (ag 7)),(11,.l (ag p)),(76,.l (a5 k)),(17,Cz d)]) (fun _ _=>Y) (fun _ _=>True) () trivial rfl fun D z R x e _=>⟨(),a',trivial,av rfl,by
  have l:=F (e.trans (rj ..));rw[bi] at l;have V:=ao (by rw[e,bi];exact ci (m3 _) _) L;have W:D.flatten.length+z.length≤1000000:=by
   rw[RC,bi,Rf] at l;exact ao l (aD (fh 9 V) rfl)
  have B:=nm (f:=ag) W;have X:(D++[z]).flatten=D.flatten++z:=by rw[RC,Rf]
  clear t T C Q I M q h F v L N P e l V W;induction D using cn with
  |nil=>
   refine(?_:fc _ _ _ _ _ _ _ _ [_,_,_,_,_,_,_,_,_,_,(17,.l (a5 ([]++[z]).flatten))] _);refine ak X ?_;exact bq 0 [.w B]
  |cons y D=>
   refine((ak X ?_):fc _ _ _ _ _ _ _ _ [_,_,_,_,_,_,_,_,_,_,(17,.l (a5 ((y::D)++[z]).flatten))] _);exact bq 0 [.w B],rfl⟩
 have s:∃o,Cz (bm a)=o∧(o=bE (.c ((bm a).flatten.map ag))∨o=.l (a5 (bm a).flatten)):=⟨_,rfl,by
  cases bm a with
  |nil=>exact av rfl
  |cons _ _=>exact aI rfl⟩
 refine ay s fun o Z E=> ?_;rw[Z] at S;clear s Z I M q h F v L l;induction E with
 |inl E=>subst E;exact aw 150994944 [.call t,.call C,.p (ds:=(bm a).map a5) (aB _) N,.call T,.call C,.get P,.call C,.sub S,.call Q]
 |inr E=>subst E;exact aw 150994944 [.call t,.call C,.p (ds:=(bm a).map a5) (aB _) N,.call T,.call C,.get P,.call C,.sub S,.call Q]
theorem PM (h:gF c e d a p k Y (w+9)):i7 c a Y:=fun{G} q=>by
 refine q a d (yW.of _ _ fun n b=> ?_) h.sa.b h.D;have C:=h.c0 n b;exact aw 0 [.call (h.t1 n b),.call C,.p (ds:=(bm a).map a5) (aB _) h.d,.call (h.t2 n b),.call C,.get h.b]
theorem Qy:∀w,gF c C b a p k Y w→i7 c a Y
 |0,h=>Iz h
 |1,h=>HW h
 |2,h=>Mg h
 |3,h=>GL h
 |4,h=>IG h
 |5,h=>Jb h
 |6,h=>I7 h
 |7,h=>Pg h
 |8,h=>IH h
 |_+9,h=>PM h
end
theorem NJ (h:gz c) (s:fb a) (Y:ar):i7 c a Y:=
 fC h (aY rfl) Y fun w C t _ D=>fC D s.small.2 Y fun p e T b d=>Qy w ⟨s,t,T,d,cS b⟩
noncomputable def Dj (a:aK) (x:b0×List aK):au:=[(74,.a x.1),(20,.l (bN a)),(23,bE (.c (x.2.map bN)))]
structure Te (d:List aK) (x:b0×List aK):Prop where
 D:gz x.1
 p:∀b∈x.2,ij b
 l:x.2.length≤d.length
theorem J9 (I:gz c) (s:fb a) (Y:ar) {G:Prop} (q:∀(H:List aK) A,aE 4 294 [.a c,.l (bN a)] Y (.c (H.map bN)) [A] Y→1≤H.length→H.length≤8→(∀b∈H,ij b)→gz A→G):G:=by
 refine LA I s Y fun M P u _ B U V=> ?_
 refine kR (N:=(3≤·)) (g:=294) (b:=ah) [1] bN M (Dj a) (fun _=>Y) Te (P,[]) ⟨V,(fun _ h=>(by cases h)),bv _⟩ rfl
  (fun X j R x e k Z q=>fC (n:=6) k.D (aY rfl) Y fun v y t W D=> ?_) fun x k L=> ?_
 ·have E:=ao (by rw[e,bi];exact bu _ _) B;induction d:aM (0<v) with
  |true=>
   refine NJ D (U j (eO e)) Y fun b C T p z=> ?_;have m:=kL (l:=x.2.map bN) (x:=bN b) (by rw[aB];exact aD (ao k.l E) rfl);refine q (C,x.2++[b]) ⟨z,i3 k.p p,by refine ak bi ?_;refine ak bi ?_;exact b3 k.l⟩ rfl fun n i=> ?_;have t:=t n (bl i rfl);have T:=T n (bl i rfl);unfold Dj;refine ak cm ?_;exact bq 0 [.call t,.y d,.call T,.u m]
  |false=>
   refine q (y,x.2) ⟨D,k.p,ao k.l (by rw[bi];exact bu _ _)⟩ rfl fun n i=> ?_;have t:=t n (bl i rfl);exact bq 0 [.call t,.y d]
 ·have E:=ao k.l B;have F:x.2.length≤16777216:=aD E rfl;refine fC (n:=4) k.D (aY rfl) Y fun v y t W D=> ?_;have o (Q:(v==0)=ai) (w:(x.2.length==0)=ai):G:=by
   refine q x.2 y (yW.of _ _ fun n i=> ?_) (x1 (c5.mp w)) (re E) k.p D;have u:=u n (bl i rfl);have L:=L n i;have t:=t n (bl i rfl);exact aw 0 [.call u,.sub L,.call t,.x Q,.p (ds:=x.2.map bN) (aB _) F,.x w]
  refine Aj D Y fun b C T S _ z=> ?_;have m:=kL (l:=x.2.map bN) (x:=bN b) (by rw[aB];exact aD E rfl)
  have f (r:aE 4 294 [.a c,.l (bN a)] Y (.c (x.2.map bN++[bN b])) [C] Y):G:=
   q (x.2++[b]) C (by refine ak cm ?_;exact r) (by refine ak bi ?_;exact m3 _) (by refine ak bi ?_;exact b3 E) (i3 k.p S.b) z
  induction Q:(v==0) with
  |true=>
   refine f (yW.of _ _ fun n i=> ?_);have u:=u n (bl i rfl);have L:=L n i;have t:=t n (bl i rfl);have T:=T n i;exact aw 0 [.call u,.sub L,.call t,.x Q,.call T,.u m]
  |false=>
   induction w:(x.2.length==0) with
   |false=>exact o Q w
   |true=>
    refine f (yW.of _ _ fun n i=> ?_);exact aw 0 [.call (u n (bl i rfl)),.sub (L n i),.call (t n (bl i rfl)),.x Q,.p (ds:=x.2.map bN) (aB _) F,.x w,.call (T n i),.u m]
section
theorem B7 (I:aW R) (e:R.length≤1000000) {G:Prop} (q:∀t r,aE 2 158 [.l (an 0),.l (ag u)] (aF R::J) (ag t) [] (aF r::J)→aW r→bL R r→r.length≤R.length+1→r[t]? =ac (.j [ae 4,ag u,ae 0])→G):G:=
 p8 (J:=J) I ⟨rfl,rfl⟩ e fun t r h a b c d=>q t r (yW.of _ _ fun n f=>by
  exact aw 0 [.call (h n f)]) a b c d
theorem Qc (I:aW R) (e:R.length≤1000000) {G:Prop} (q:∀t r,aE 2 157 [.l (an 0),.l (bP "a")] (aF R::J) (ag t) [] (aF r::J)→aW r→bL R r→r.length≤R.length+1→r[t]? =ac (.j [ae 3,bP "a",ae 0])→G):G:=
 p8 (J:=J) I ⟨vE 2 (aY rfl),rfl⟩ e fun t r h a b c d=>q t r (yW.of _ _ fun n f=>by
  exact aw 0 [.call (h n f)]) a b c d
theorem zB (f:b<2) (I:aW R) (g:R.length≤1000000) {G:Prop} (q:∀t r,aE 2 159 [.l (an 0),.l (ag b)] (aF R::J) (ag t) [] (aF r::J)→aW r→bL R r→r.length≤R.length+1→r[t]? =ac (.j [ae 2,ag b,ae 0])→G):G:=
 p8 (J:=J) I ⟨rfl,rfl⟩ g fun t r h a c d e=>q t r (yW.of _ _ fun n i=>by
  have h:=h n i;clear q I
  match b,f with
  |0,_=>exact aw 1 [.call h]
  |1,_=>exact aw 1 [.call h]) a c d e
noncomputable def rY (k:List Nat) (X:List aj):au:=[(1,.l (an 0)),(76,.l (a5 k)),(32,bE (.c X))]
def KR (k:List Nat) (R:List aj) (J:ar) (X:List aj) (j:Nat):Prop:=∀{h:Prop},(∀t r,aW r→bL R r→r.length≤R.length+1→cq r t j→(∀n,2≤n→fc n 292 [1] (he (rY k [])) (ag j) (rY k X) (aF R::J) a' (rY k (X++[ag t])) (aF r::J))→h)→h
theorem mQ {P:Nat→Prop} (h:∀{p},p<n→P p) (a:P n):∀{p},p<n+1→P p:=fun b=>(x2 (iW b)).elim h fun e=>e▸a
theorem v' {P:Nat→Prop} (a:P 0) (b:P 1) (c:P 2) (d:P 3) (e:P 4) (f:P 5) (g:P 6) (i:P 7):∀{p},p<8→P p:=
 mQ (mQ (mQ (mQ (mQ (mQ (mQ (mQ (fun h=>aR h (rl _)) a) b) c) d) e) f) g) i
theorem HB {k:List Nat} {X:List aj} (I:aW R) (e:R.length≤1000000) (f:X.length≤1000000):j<8→KR k R J X j:=by
 have a (t:Nat):=kL (x:=ag t) f;refine v' ?_ ?_ ?_ ?_ ?_ ?_ ?_ ?_<;>intro g q
 ·refine B7 (J:=J) I e fun t c h i d z r=>q t c i d z ⟨r,aY rfl⟩ fun n b=> ?_;have h:=h n b;have a:=a t;exact bq 1 [.call h,.u a]
 ·refine B7 (J:=J) I e fun t c h i d z r=>q t c i d z ⟨r,aY rfl⟩ fun n b=> ?_;have h:=h n b;have a:=a t;exact bq 1 [.call h,.u a]
 ·refine Qc (J:=J) I e fun t c h i d z r=>q t c i d z ⟨r,aY rfl⟩ fun n b=> ?_;have h:=h n b;have a:=a t;exact bq 2 [.call h,.u a]
 ·refine zB (J:=J) (aY rfl) I e fun t c h i d z r=>q t c i d z ⟨r,aY rfl⟩ fun n b=> ?_;have h:=h n b;have a:=a t;exact bq 4 [.call h,.u a]
 ·refine zB (J:=J) (aY rfl) I e fun t c h i d z r=>q t c i d z ⟨r,aY rfl⟩ fun n b=> ?_;have h:=h n b;have a:=a t;exact bq 4 [.call h,.u a]
 ·refine q 5 R I .f (fQ _) I.un.2.1 fun n b=> ?_;have a:=a 5;exact bq 5 [.u a]
 ·refine q 7 R I .f (fQ _) I.un.2.2.2.1 fun n b=> ?_;have a:=a 7;exact bq 5 [.u a]
 ·refine q 6 R I .f (fQ _) I.un.2.2.1 fun n b=> ?_;have a:=a 6;exact bq 5 [.u a]
structure S4 (R:List aj) (d:List Nat) (y:List (Nat×List Nat×List Nat)×List aj):Prop where
 I:aW y.2
 x:bL R y.2
 z:y.2.length≤R.length+d.length
 hq:∀q∈y.1,bH y.2 q.1 q.2.1 q.2.2
 a:y.1.map (·.2.1)=d.map fun u=>[u]
theorem xA (I:aW R) (c:e3 k) (s:R.length≤900000) {G:Prop} (q:∀t r O,aE 5 292 [.l (an 0),.l (a5 k)] (aF R::J) (ag t) [] (aF r::J)→aW r→bL R r→r.length≤R.length+10→bH r t k O→G):G:=by
 have v:=c.1.len
 refine kR (N:=(2≤·)) (g:=292) (b:=ah) [1] ag k (fun x=>rY k (x.1.map fun q=>ag q.1)) (fun x=>aF x.2::J) (S4 R) ([],R) ⟨I,.f,bv _,(fun _ h=>(by cases h)),rfl⟩ rfl
  (fun D j y x e a A q=> ?_) fun x a l=> ?_
 ·have d:=ao (by rw[e,bi];exact bu _ _) v;refine HB (k:=k) (J:=J) a.I (ao a.z (aD (dd s d) rfl)) (X:=x.1.map fun q=>ag q.1) (by rw[aB,((aB _).symm.trans ((aS gK a.a).trans (aB _)))];exact aD d rfl) (c.lt (eO e)) fun t o i f z u T=> ?_;refine q (x.1++[(t,[j],[t])],o) ⟨i,a.x.trans f,by rw[bi];exact ao z (b3 a.z),i3 (fun q h=>(a.hq q h).mono f) (.d i u),by refine ak cm (ak cm (ak a.a ?_));rfl⟩ rfl fun n m=> ?_;exact ak cm (T n m)
 ·have w:x.1≠[]:=fun e=>c.1.1 (DK.mp (by refine ak (cB a.a) (ak e ?_);rfl));have Z:=ao a.z (ci v _);refine rT (J:=J) a.I (av rfl) a.hq w (ao Z (aD (dc s 9) rfl)) fun t o O h i f z p=> ?_;rw[D3,a.a,←D3,List.flatMap_singleton',qm c.1] at p;refine q t o O (yW.of _ _ fun n m=> ?_) i (a.x.trans f) (ao z (b3 Z)) p;exact aw 0 [.sub (l n (bl m rfl)),.call (h n m)]
end
section
structure Fo (R:List aj) (mk:Nat) (d:List (List Nat)) (y:List (Nat×Nat)×List aj):Prop where
 I:aW y.2
 x:bL R y.2
 z:y.2.length≤R.length+10*d.length
 ks:b6 y.2 y.1 (d.map (·,mk))
theorem sx (I:aW R) (f:∀x∈g,e3 x) (m:mk<3) (o:R.length+10*g.length≤900000)
  (T:∀n b r x t,aZ n 292 [.l (an 0),.l (a5 x)] (aF b::J) (ag t) [] (aF r::J)→iS (dy bw (aZ n) k) (kV 293 p i k (a5 x) L (aF b::J)) [bc (t,mk)] L (aF r::J))
  {G:Prop} (q:∀E c,Fo R mk g (E,c)→(∀n,5≤n→ca bw (aZ n) (ep 293 p i k (g.map a5) L (aF R::J)) (.h (.c (bf E))) L (aF c::J))→G):G:=
 qN p i k a5 g (fun x:List (Nat×Nat)×List aj=>bf x.1) (fun _=>L) (fun x=>aF x.2::J) (Fo R mk) ([],R) ⟨I,.f,bv _,g9⟩ rfl
  (fun d j v x e a y q=>by
   have l:d.length≤g.length:=by exact ak e (ak bi (bu _ _))
   refine xA (J:=J) a.I (f j (eO e)) (ao a.z (ao (ci (fh 10 l) _) o)) fun t r O h s X z P=> ?_;exact q (x.1++[(t,mk)],r) [bc (t,mk)] ⟨s,a.x.trans X,by refine ak bi ?_;exact ao z (dc a.z 10),by refine ak cm ?_;exact(a.ks.mono X).app (gO P m g9)⟩ cm fun n u=>T n _ _ _ _ (h n u))
  fun x a w=>q x.1 x.2 a w
theorem xe (h:A.length+B.length≤1000000):eP b9 (.c (bf A)) (.c (bf B))=ac (.c (bf (A++B))):=nm h
noncomputable def s1 (b:aK):au:=[(1,.l (an 0)),(20,.l (bN b)),(80,.l (dZ b.hs)),(82,.l (dZ b.os)),(66,.l (dZ b.rs)),(83,.l (dZ b.ts)),(7,.l (ag b.c))]
structure S6 (R:List aj) (b:aK) (t:Nat) (r:List aj):Prop where
 I:aW r
 x:bL R r
 z:r.length≤R.length+60
 li:cg r t b
 row:0<b.fr→∃E,r[t]? =ac (.j [ae 12,.j (bf E),ag b.c])∧b6 r E b.els
theorem Bm (I:aW R) (γ:ij b) (m:R.length≤800000) {G:Prop} (q:∀t ζ,aE 6 293 [.l (an 0),.l (bN b)] (aF R::J) (ag t) [] (aF ζ::J)→S6 R b t ζ→G):G:=by
 have o:=γ.ok;have l:=γ.c;have D:∀k∈bm b,e3 k:=o.nk;have f:=gV (a:=b);have N:(bm b).length≤100:=aD l rfl;have c:=rS (Y:=aF R::J) N;have φ:(bm b).length≤16777216:=aD N rfl;have η:b.rs.length≤16777216:=aD o.rs rfl;by_cases F:0<b.fr
 ·have θ:b.hs.length≤5:=eY (.c 1 .b (.n 5) (.c 1 (.a (.a (.a .f .g) .j) .l) .b (.g 1 .f (.n 5)))) rfl l (a9 (cB f));have χ:b.os.length≤5:=eY (.c 1 .b (.n 5) (.c 1 (.a (.a (.a .f .g) .j) .l) .b (.g 1 .g (.n 5)))) rfl l (a9 (cB f));have ψ:b.rs.length≤5:=eY (.c 1 .b (.n 5) (.c 1 (.a (.a (.a .f .g) .j) .l) .b (.g 1 .j (.n 5)))) rfl l (a9 (cB f));have ω:b.ts.length≤5:=eY (.c 1 .b (.n 5) (.c 1 (.a (.a (.a .f .g) .j) .l) .b (.g 1 .l (.n 5)))) rfl l (a9 (cB f));have P {g:List (List Nat)} (h:g.length≤5):(g.map a5).length≤b4:=by rw[aB];exact aD h rfl
  refine sx (p:=[2]) (i:=0) (k:=59) (mk:=0) (L:=s1 b) (J:=J) I (fun x h=>D x (cG _ (cG _ (cG _ h)))) (aY rfl) (cD (.c 1 .b (.n 800000) (.c 10 .f (.n 5) (.g 1 (.a .b (.m 10 .f)) (.n 900000)))) rfl m θ) (fun n M C x t h=>by
   exact cX 0 [.call h]) fun E M s w=> ?_
  refine sx (p:=[3]) (i:=0) (k:=57) (mk:=1) (L:=s1 b++[(8,.l (.c (bf E)))]) (J:=J) s.I (fun x h=>D x (cG _ (cG _ (eD _ h)))) (aY rfl) (by have:=s.z;exact lz (.c 1 .b (.n 800000) (.c 10 .f (.n 5) (.c 10 (.a (.a (.a .g .j) .l) .o) .f (.c 1 .p (.a .b (.m 10 .g)) (.g 1 (.a .p (.m 10 .j)) (.n 900000)))))) rfl m l (a9 (cB f)) this) (fun n M C x t h=>by
   exact cX 0 [.call h]) fun Q C v W=> ?_
  refine sx (p:=[4]) (i:=0) (k:=57) (mk:=2) (L:=s1 b++[(8,.l (.c (bf (E++Q))))]) (J:=J) v.I (fun x h=>D x (cG _ (eD _ h))) (aY rfl) (by have u:=s.z;have U:=v.z;exact s6 (.c 1 .b (.n 800000) (.c 10 .f (.n 5) (.c 10 (.a (.a (.a .g .j) .l) .o) .f (.c 1 .p (.a .b (.m 10 .g)) (.c 1 .q (.a .p (.m 10 .j)) (.g 1 (.a .q (.m 10 .l)) (.n 900000))))))) rfl m l (a9 (cB f)) u U) (fun n M C x t h=>by
   exact cX 0 [.call h]) fun δ b₂ y S=> ?_
  refine sx (p:=[5]) (i:=0) (k:=56) (mk:=0) (L:=s1 b++[(8,.l (.c (bf (E++Q++δ))))]) (J:=J) y.I (fun x h=>D x (eD _ h)) (aY rfl) (by have u:=s.z;have U:=v.z;have a₀:=y.z;exact qg (.c 1 .b (.n 800000) (.c 10 .f (.n 5) (.c 10 (.a (.a (.a .g .j) .l) .o) .f (.c 1 .p (.a .b (.m 10 .g)) (.c 1 .q (.a .p (.m 10 .j)) (.c 1 .r (.a .q (.m 10 .l)) (.g 1 (.a .r (.m 10 .o)) (.n 900000)))))))) rfl m l (a9 (cB f)) u U a₀) (fun n M C x t h=>by
   exact cX 0 [.call h]) fun ι κ A V=> ?_
  have μ:κ.length≤R.length+50:=qg (.c 1 .b (.a .f (.m 10 .g)) (.c 1 .j (.a .b (.m 10 .l)) (.c 1 .o (.a .j (.m 10 .p)) (.c 1 .q (.a .o (.m 10 .r)) (.c 10 (.a (.a (.a .g .l) .p) .r) (.n 5) (.g 1 .q (.a .f (.n 50)))))))) rfl s.z v.z y.z A.z (ao (a9 f.symm) l);have α:b6 κ (E++Q++δ++ι) b.els:=(((s.ks.mono (v.x.trans (y.x.trans A.x))).app (v.ks.mono (y.x.trans A.x))).app (y.ks.mono A.x)).app A.ks;have Z:(E++Q++δ++ι).length≤5:=by
   rw[α.len];unfold aK.els;rw[bi,bi,bi,aB,aB,aB,aB,←f];exact l
  refine CZ (J:=J) A.I o α.marks F (aD Z rfl) (r:=b.c) (ao μ (aD (dc m 50) rfl)) fun t a₁ h a₂ X a₃ β=>q t a₁ (yW.of _ _ fun n j=> ?_) ⟨a₂,(s.x.trans (v.x.trans (y.x.trans A.x))).trans X,ao a₃ (ao (b3 μ) (ci (show 51≤60 by decide) _)),.d o β (α.mono X) F,fun _=>⟨_,β,α.mono X⟩⟩;have c:=c n (bl j rfl);have w:=w n j;have W:=W n j;have S:=S n j;have V:=V n j;have h:=h n (bl j rfl);rw[bi] at Z;have z:=ao Z (show 5≤1000000 by decide);have B:=xe z;rw[bi] at z;have ν:=xe (ao (bu _ _) z);rw[bi] at z;have ξ:=xe (ao (bu _ _) (ao (bu _ _) z));have ο:=P θ;have π:=P χ;have ρ:=P ψ;have σ:=P ω;have a₄:b.rs.length=1→(bm b).length≠1:=fun e q=>kY 0 (b7 (.c 1 .n1 (.a .b .f) (.c 1 .n1 .g (.c 1 (.a (.a (.a .b .f) .g) .j) .n1 (.g 1 .n1 .n0)))) rfl F (a9 e.symm) (a9 (f.symm.trans q)));induction d:(b.rs.length==1) with
  |false=>exact aw 0 [.p (ds:=b.rs.map a5) (aB _) η,.x d,.le ο,.sub w,.le π,.sub W,.w ξ,.le ρ,.sub S,.w ν,.le σ,.sub V,.w B,.call h]
  |true=>
   exact aw 0 [.p (ds:=b.rs.map a5) (aB _) η,.x d,.call c,.p (ds:=(bm b).map a5) (aB _) φ,.x (c5.mpr (a₄ (dL.mp d))),.le ο,.sub w,.le π,.sub W,.w ξ,.le ρ,.sub S,.w ν,.le σ,.sub V,.w B,.call h]
 ·refine(γ.sh.resolve_left F).elim fun k ε=> ?_;have a₅:=D k (by refine ak ε ?_;exact cU _);generalize b.c=r at ε;subst ε;refine xA (J:=J) I a₅ (aD m rfl) fun t M O a₆ a₇ a₈ τ p=>AK (J:=J) (e:=t) (r:=r) a₇ (ao τ (aD (dc m 10) rfl)) fun T C a₉ b₀ υ b₁ β=>q T C (yW.of _ _ fun n j=> ?_) ⟨b₀,a₈.trans υ,ao b₁ (ao (b3 τ) (ci (show 11≤60 by decide) _)),⟨o,av ⟨t,k,O,β,p.mono υ,rfl,rfl,rfl,rfl⟩⟩,fun h=>aR h F⟩;exact aw 50 [.call (c n (bl j rfl)),.call (a₆ n (bl j rfl)),.call (a₉ n (bl j rfl))]
end
theorem cg.at {R:List aj} {t:Nat} {l:aK} (h:cg R t l):∃row w,R[t]? =ac row∧ju row w∧w= -1:=by
 rcases h.2 with⟨e,k,O,a,_⟩|⟨E,a,_⟩
 ·exact⟨_,_,a,.c _ _,rfl⟩
 ·exact es _ _ a (.j _ _) rfl
theorem FG {u:Nat}:i4 u= -1∨(i4 u=(7:Nat)∧u≠6)∨(i4 u=(6:Nat)∧u≠7):=by
 induction u using ir with
 |zero=>exact aI (av ⟨rfl,Nat.noConfusion⟩)
 |succ u=>
  induction u using ir with
  |zero=>exact aI (av ⟨rfl,by decide⟩)
  |succ u=>
   induction u using ir with
   |zero=>exact aI (aI ⟨rfl,by decide⟩)
   |succ u=>exact av rfl
structure Nz (R:List aj) (ls us:List Nat) (t:Nat) (r:List aj) (O:List Nat):Prop where
 I:aW r
 x:bL R r
 z:r.length≤R.length+1
 m:∀i,i∈O↔i∈ls++us
 l:O.length≤ls.length+us.length
 nd:O.Nodup
 t:O=[t]∨(r[t]? =ac (.j [ae 6,.j (O.map ag)])∧2≤O.length)
section
variable{R:List aj} {J:ar} {ls us:List Nat}
structure Bi (R:List aj) (ls us:List Nat) (i:Nat):Prop where
 pt:gY R i [i]
 ok:sJ R i
 no:¬∃j∈ls++us,(j:Int)=mv R i
theorem Da {j:Nat}:¬(j:Int)= -1:=fun h=>(by injection h)
theorem cg.p171 (I:aW R) {i:Nat} {l:aK} (h:cg R i l):Bi R ls us i:=by
 refine cF h.at fun r w a b c=> ?_;have g {j:Nat} (f:j<16):i≠j:=fun e=>aR (h.ge I) (jh (e▸f));refine⟨⟨g (aY rfl),av ⟨r,w,a,b,rfl⟩⟩,⟨⟨r,w,a,b⟩,g (aY rfl),g (aY rfl),g (aY rfl),g (aY rfl),g (aY rfl)⟩,fun z=>ay z fun j _ e=> ?_⟩;unfold mv at e;rw[a,nW,←b.wh,c] at e;exact Da e
theorem cq.p171 (I:aW R) (A:∀j∈ls,∃l,cg R j l) {i u:Nat} (h:cq R i u):Bi R ls [i] i:=by
 have o:=h.ok I;refine bK o.row fun r w d f=>⟨⟨fun e=>(l6 (h.far I)).n2 (aS k6 e),av ⟨r,w,d,f,rfl⟩⟩,o,fun z=>ay z fun j a e=> ?_⟩;rw[zk h] at e;have b {x:Nat} (g:x<16) (e:(j:Int)=(x:Nat)):i=x:=(dD.mp a).elim (fun a=>(A j a).elim fun l h=>aR (h.ge I) (jh (dh e▸g))) fun a=>(bW.mp a).symm.trans (dh e);rcases FG with E|⟨E,c⟩|⟨E,c⟩<;>rw[E] at e
 ·exact Da e
 ·exact c ((b (aY rfl) e▸h).code I.un.2.2.2.1)
 ·exact c ((b (aY rfl) e▸h).code I.un.2.2.1)
theorem FM (I:aW R) (A:∀j∈ls,∃l,cg R j l) (y:ls≠[]) (o:us=[]∨∃i u,us=[i]∧cq R i u) (B:ls.length≤50) (C:R.length≤900000)
  {G:Prop} (q:∀t f O,aE 4 171 [.l (an 0),.l (.c ((ls++us).map ag))] (aF R::J) (ag t) [] (aF f::J)→Nz R ls us t f O→G):G:=by
 have U:us.length≤1:=o.elim (fun h=>h▸cA _) fun z=>bK z fun i u h _=>h▸bv _;have d:∀i∈ls++us,Bi R ls us i:=fun i c=>(dD.mp c).elim (fun h=>(A i h).elim fun l h=>h.p171 I) fun h=>by
  rcases o with e|⟨j,u,e,b⟩<;>rw[e] at h⊢
  ·nomatch h
  ·exact List.mem_singleton.mp h▸b.p171 I A
 have H {p:Nat×List Nat} (h:p∈(ls++us).map fun i=>(i,[i])):∃i∈ls++us,p=(i,[i]):=ay (List.mem_map.mp h) fun i c e=>bd i c e.symm;have g:∀j,j∈du ((ls++us).map fun i=>(i,[i])) []↔j∈ls++us:=fun j=>by
  rw[r3];refine⟨fun h=>h.elim (fun z=>ay z fun p d b=>(ay (H d) fun i c e=> ?_)) (fun h=>nomatch h),fun h=>av ⟨(j,[j]),cr.mpr ⟨j,h,rfl⟩,cU _⟩⟩;have b:=e▸b;exact bW.mp b▸c
 have v:=AJ (R:=R) (J:=J) (H:=(ls++us).map fun i=>(i,[i])) (X:=.c ((ls++us).map ag)) I (av (by rw[eg];rfl)) (fun p h=>ay (H h) fun i c e=>e▸(d i c).pt) (fun p h i E=>by
  refine ay (H h) fun j b e=> ?_;exact bW.mp (e▸E)▸(d j b).ok)
 have n:(du ((ls++us).map fun i=>(i,[i])) []).Nodup:=yR h7;generalize du ((ls++us).map fun i=>(i,[i])) []=k at v g n;have w:k.length≤ls.length+us.length:=by
  rw[←bi];exact n.length_le_of_subset fun j b=>(g j).mp b
 have m:=fun i=>(md _).mem_iff.trans (g i);have F:fO R k=kT k:=by
  unfold fO;rw[DO];intro i c;rw[cP fun z=>ay z fun j b e=>(d i ((m i).mp c)).no ⟨j,(g j).mp b,e⟩];rfl
 refine((F▸v) (jg w (jg (dd B U) (aY rfl))) (by
  induction s:ls using cn with
  |nil=>exact aR s y
  |cons a r=>exact xZ ((m a).mpr (by rw[s];exact cU _))) (aD C rfl)).elim fun t Z=>qx Z fun f e L x M=> ?_
 exact q t f (kT k) e ⟨L,(oF x).1,(oF x).2,m,ao (a9 (md _).length_eq) w,(md _).nodup_iff.mpr n,M.imp (fun h=>h.1) fun h=>⟨h.2,h.1⟩⟩
end
noncomputable def e0:Nat→Nat
 |0=>1|1=>2|2=>8|3=>32|4=>64|5=>128|6=>7|7=>24|_=>256
noncomputable def bX (k:List Nat):Nat:=k.foldl (fun h u=>h|||e0 u) 0
theorem Bu {a b:Nat}:ub (a:Int) (b:Int)=((a|||b:Nat):Int):=by
 rw[T_,QQ (gG _) (gG _)];have:=T7 a b;simp only[py];exact DG.mpr (aS ER this.symm)
theorem Nq {a b:Nat}:D4 (a:Int) (b:Int)=((a&&&b:Nat):Int):=by
 rw[QQ (gG _) (gG _)];simp only[py]
theorem CM {a b m:Nat}:(a|||b)|||m=m↔a|||m=m∧b|||m=m:=by
 constructor
 ·intro h;have k:=fun i=>by
   have:=aS (fun x=>Nat.testBit x i) h;simpa[yf] using this
  refine⟨Rx fun i=> ?_,Rx fun i=> ?_⟩<;>
  ·have:=k i;rw[yf]
   revert this
   cases a.testBit i<;>cases b.testBit i<;>cases m.testBit i<;>decide
 ·rintro ⟨c,d⟩;rw[ue,d,c]
theorem K' {m:Nat} {k:List Nat}:∀{h:Nat},k.foldl (fun h u=>h|||e0 u) h|||m=m↔h|||m=m∧∀u∈k,e0 u|||m=m:=by
 induction k with
 |nil=>exact(and_iff_left fun _ h=>nomatch h).symm
 |cons u k i=>intro h;rw[t8,i,CM,pp,and_assoc]
theorem qP {k:List Nat} {m:Nat}:bX k|||m=m↔∀u∈k,e0 u|||m=m:=by
 unfold bX;rw[K'];simp
theorem Od {m:Nat}:m|||m=m:=Nat.or_self m
theorem lg {k:List Nat} {u:Nat} (h:u∈k):e0 u|||bX k=bX k:=qP.mp Od u h
theorem qT {a b c:Nat} (h:a|||b=b) (h':b|||c=c):a|||c=c:=by rw[←h',←Nat.or_assoc,h]
theorem A3 {a b:Nat} (h:a|||b=b) (h':b|||a=a):a=b:=by rw[←h',EG,h]
theorem Ps {i:Nat} {k:List Nat}:∀{h:Nat},(k.foldl (fun h u=>h|||e0 u) h).testBit i=af→h.testBit i=af∨∃u∈k,(e0 u).testBit i=true:=by
 induction k with
 |nil=>exact av
 |cons u k I=>
  refine fun e=>(I e).elim (fun e=> ?_) fun e=>aI (e.imp fun v h=>⟨e9 _ h.1,h.2⟩);rw[yf,dK] at e;exact e.imp id fun e=>bd u (cU _) e
noncomputable def C5:Nat→Nat
 |0=>0|1=>1|2=>3|3=>5|4=>6|5=>7|6=>2|7=>4|_=>8
theorem Af:∀u,u<9→∀v,v<9→((e0 v).testBit (C5 u)=af↔v=u∨(v=6∧(u=0∨u=1))∨(v=7∧u=2)):=by decide
theorem qI {k k':List Nat} (h:∀u∈k,u<9) (h':∀u∈k',u<9):bX k|||bX k'=bX k'↔cz k k'=true:=by
 rw[qP];unfold cz;rw[List.all_eq_true];refine forall_congr' fun u=>forall_congr' fun c=> ?_;rw[dK,ee];constructor
 ·intro e;have b:(bX k').testBit (C5 u)=true:=by
   rw[←e,yf,(Af u (h u c) u (h u c)).mpr (av rfl),Bool.true_or]
  rcases Ps b with e|⟨v,a,f⟩
  ·simp at e
  ·rcases(Af u (h u c) v (h' v a)).mp f with rfl|⟨rfl,rfl|rfl⟩|⟨rfl,rfl⟩
   ·exact .inl a
   ·right;unfold ce;simp[a]
   ·right;unfold ce;simp[a]
   ·right;unfold ce;simp[a]
 ·rintro (e|e)
  ·exact lg e
  ·unfold ce at e;simp only[dK,fu,dL,ee] at e;rcases e with⟨rfl|rfl,d⟩|⟨rfl,g⟩
   ·exact qT (by decide) (lg d)
   ·exact qT (by decide) (lg d)
   ·exact qT (by decide) (lg g)
theorem C0 {k l:List Nat}:bX (k++l)=bX k|||bX l:=by
 refine A3 (qP.mpr fun u h=> ?_) (CM.mpr ⟨qP.mpr fun u h=>lg (by simp[h]),qP.mpr fun u h=>lg (by simp[h])⟩);rcases List.mem_append.mp h with h|h
 ·exact qT (lg h) (by rw[←Nat.or_assoc,Nat.or_self])
 ·exact qT (lg h) (by rw[Nat.or_comm (bX k),←Nat.or_assoc,Nat.or_self])
theorem AI {k:List Nat} (h:∀u∈k,u<9):bX (cM k)=bX k:=by
 have n:∀u∈cM k,u<9:=fun u a=>(fp.mp a).1;have s:∀{u},ce (cM k) u=ce k u:=fun{u}=>by
  have c:(cM k).contains 6=k.contains 6:=by rw[ji,ee,ee,fp];simp[ce]
  have d:(cM k).contains 7=k.contains 7:=by rw[ji,ee,ee,fp];simp[ce]
  unfold ce;rw[c,d]
 refine A3 ((qI n h).mpr (cH.mpr fun u a=> ?_)) ((qI h n).mpr (cH.mpr fun u a=> ?_))
 ·rw[dK];exact av (ee.mpr (fp.mp a).2.1)
 ·rw[dK,s,ee,fp];induction b:ce k u with
  |true=>exact aI rfl
  |false=>exact av (fg (h u a) a rfl)
theorem xa {k k':List Nat} (h:gh k) (h':gh k') (e:bX k=bX k'):k=k':=by
 have s:=(qI h.2.2.1 h'.2.2.1).mp (by rw[e,uj]);have S:=(qI h'.2.2.1 h.2.2.1).mp (by rw[e,uj]);have y:∀{k k':List Nat},gh k→cz k k'=af→cz k' k=af→∀u∈k,u∈k':=fun{k k'} h s S u a=>by
  have:=cH.mp s u a;rw[dK,ee] at this;refine this.elim id fun e=> ?_;have U:∀w,w∈k'→(w=6∨w=7)→w∈k:=fun w c d=>by
   have:=cH.mp S w c;rw[dK,ee] at this;refine this.elim id fun e=> ?_;rcases d with rfl|rfl<;>simp[ce] at e
  unfold ce at e;simp only[Bool.or_eq_true,Bool.and_eq_true,beq_iff_eq,List.contains_iff_mem] at e;rcases e with⟨rfl|rfl,b⟩|⟨rfl,f⟩
  ·exact absurd a (h.2.2.2.1 (U 6 b (.inl rfl))).1
  ·exact absurd a (h.2.2.2.1 (U 6 b (.inl rfl))).2
  ·exact absurd a (h.2.2.2.2 (U 7 f (.inr rfl)))
 exact pj h.2.1 h'.2.1 fun x=>⟨y h s S x,y h' S s x⟩
theorem PV (u:Nat):e0 u≠0:=by
 rcases u with _|_|_|_|_|_|_|_|u<;>exact Nat.succ_ne_zero _
theorem F3 {k:List Nat} (h:gh k):0<bX k:=by
 obtain⟨u,b⟩:=nS k h.1;have a:=lg b;refine x1 fun e=> ?_;rw[e,SX] at a;exact aR a (PV u)
theorem IR {a b c:Nat}:(a|||b)&&&c=0↔a&&&c=0∧b&&&c=0:=by
 rw[Nat.and_or_distrib_right];constructor
 ·intro h;have:∀x y:Nat,x|||y=0→x=0:=fun x y h=>by
   have d:=Nat.left_le_or (n:=x) (m:=y);exact e8 (cD (.c 1 .b .n0 (.c 1 .f .b (.g 1 .f .n0))) rfl (a9 h) d) (dN (.g 1 .n0 .b) rfl)
  exact⟨this _ _ h,this _ _ (by rw[EG];exact h)⟩
 ·rintro ⟨e,d⟩;rw[e,d];rfl
theorem AX {k:List Nat} (h:∀u∈k,u<9):bX k&&&20=0↔k.all g0=true:=by
 have y:∀(k:List Nat) (a:Nat),(k.foldl (fun h u=>h|||e0 u) a)&&&20=0↔a&&&20=0∧∀u∈k,e0 u&&&20=0:=by
  intro k;induction k with
  |nil=>intro a;simp
  |cons u k i=>intro a;rw[t8,i,IR];simp[and_assoc]
 unfold bX;rw[y,cH];have o:∀u,u<9→(e0 u&&&20=0↔g0 u=af):=by decide
 exact⟨fun c u b=>(o u (h u b)).mp (c.2 u b),fun c=>⟨rfl,fun u b=>(o u (h u b)).mpr (c u b)⟩⟩
set_option genInjectivity true in
structure JB where
 hs:List Nat
 os:List Nat
 rs:List Nat
 ts:List Nat
 c:Nat
noncomputable def a_ (a:aK):JB:=⟨a.hs.map bX,a.os.map (fun k=>bX k|||256),a.rs.map bX,a.ts.map bX,a.c⟩
noncomputable def jL (b:JB):aj:=.j [a5 b.hs,a5 b.os,a5 b.rs,a5 b.ts,ag b.c]
theorem Ix {k:List Nat} {u:Nat}:bX (k++[u])=bX k|||e0 u:=by unfold bX;refine ak List.foldl_append ?_;rfl
theorem zQ {a b:Nat}:HA iw (ag a) (ag b)=ac (ag (a|||b)):=by
 show ac (ae (ub a b))=_;refine ak Bu ?_;rfl
theorem AU {a b:Nat}:eP iw (ag a) (ag b)=ac (ag (a|||b)):=by
 show ac (ae (ub a b))=_;refine ak Bu ?_;rfl
theorem e3.a {k:List Nat} (h:e3 k):∀u∈k,u<8:=fun _=>h.lt
theorem F8 {k:List Nat} {Y:ar} (h:∀u∈k,u<8):aE 1 285 [.l (a5 k)] Y (ag (bX k)) [] Y:=yW.of _ _ fun n f=>by
 obtain⟨x,_,l⟩:=hr (n:=n) (g:=285) (b:=ah) [1] ag k (fun d (_:Unit)=>[(76,.l (a5 k)),(17,.l (ag (bX d)))]) (fun _ _=>Y) (fun _ _=>True) () trivial rfl fun a j r x e _=>⟨(),a',trivial,av rfl,by
  have G:ez (.j [ae 1,ae 2,ae 8,ae 32,ae 64,ae 128,ae 7,ae 24]) (ag j)=ac (ag (e0 j)):=
   v' (P:=fun j=>ez (.j [ae 1,ae 2,ae 8,ae 32,ae 64,ae 128,ae 7,ae 24]) (ag j)=ac (ag (e0 j))) rfl rfl rfl rfl rfl rfl rfl rfl (h j (eO e))
  have c:(vR.B iw (ag (bX a)) (ag (e0 j))).e=ac (ag (bX a|||e0 j)):=zQ;refine ak Ix ?_;exact bq 0 [.get G,.B c],rfl⟩
 exact aw 0 [.sub l]
theorem s8 {a:aK} {Y:ar} (d:∀k∈bm a,e3 k) (o:(bm a).length≤100):aE 2 286 [.l (bN a)] Y (jL (a_ a)) [] Y:=yW.of _ _ fun n p=>by
 have l {q:Type} {g:List (List Nat)} {f:List Nat→q} (h:g.length≤(bm a).length):(g.map f).length≤b4:=by rw[aB];exact ao h (aD o rfl)
 have c:=fM (n:=n) (g:=286) [0] 0 59 dZ [a.hs,a.os,a.rs,a.ts] (fun g=>[a5 (g.map bX)]) [(20,.l (bN a))] Y fun g j=>by
  have j:(∀k∈g,e3 k)∧g.length≤(bm a).length:=by
   rw[gV];unfold bm at d
   revert g
   simp only[pp,kh,false_implies,implies_true,and_true];rw[DB,DB,DB] at d;refine⟨⟨d.1.1.1,b7 (.g 1 .b (.a (.a (.a .b .f) .g) .j)) rfl⟩,⟨d.1.1.2,b7 (.g 1 .b (.a (.a (.a .f .b) .g) .j)) rfl⟩,⟨d.1.2,b7 (.g 1 .b (.a (.a (.a .f .g) .b) .j)) rfl⟩,⟨d.2,b7 (.g 1 .b (.a (.a (.a .f .g) .j) .b)) rfl⟩⟩
  have c:=fM (g:=286) [0] 1 58 a5 g (fun k=>[ag (bX k)]) [(20,.l (bN a)),(87,.l (dZ g))] Y fun k r=>by
   exact cX 0 [.call (F8 (Y:=Y) (j.1 k r).a n (bl p rfl))]
  rw[←kd,show g.map (fun k=>ag (bX k))=(g.map bX).map ag from(eg (g:=ag) ..).symm] at c;exact cX 0 [.le (l (f:=a5) j.2),.sub c]
 have C:=fM (n:=n) (g:=286) [1] 0 57 ag (a.os.map bX) (fun m=>[ag (m|||256)]) [(20,.l (bN a)),(86,bE (.c ([a.hs,a.os,a.rs,a.ts].map fun g=>a5 (g.map bX))))] Y fun m _=>by
  exact cX 0 [.w (AU (a:=m) (b:=256))]
 rw[←kd] at c C;have i:((a.os.map bX).map ag).length≤b4:=by rw[aB];exact l (by rw[gV];exact b7 (.g 1 .b (.a (.a (.a .f .b) .g) .j)) rfl)
 have e:(a.os.map bX).map (fun m=>ag (m|||256))=(a.os.map fun k=>bX k|||256).map ag:=by rw[eg,eg];rfl
 rw[e] at C;exact aw 34 [.sub c,.le i,.sub C]
theorem sC (h:e3 k):bX (cM (k++[8]))=bX k|||256:=by
 rw[AI fun u a=>(List.mem_append.mp a).elim (h.1.2.2.1 u) fun e=>List.mem_singleton.mp e▸(by decide),C0];rfl
theorem wB (h:l=(cv n).map f) (a:L=(cv N).map fun i=>f (n+i)):l++L=(cv (n+N)).map f:=by
 rw[List.range_add,cm,eg,h,a];rfl
theorem sE (b:l.length=n) (h:∀i x,i<n→l[i]? =ac x→x=g i):l=(cv n).map g:=x4 fun i=>by
 rw[dX];by_cases a:i<n
 ·have e:=cS (b▸a);rw[tX a,e,h i _ a e];rfl
 ·have a:=dC a;rw[po (b▸a),po (by rw[gm];exact a)];rfl
noncomputable def iN (a:aK) (m:Nat):List Nat:=by classical exact if a.let m then(cv m).map (fun p=>bX (a.slot m p)) else[]
theorem xq {l:List a} {i:Nat} (h:(l.map f)[i]? =ac x):∃y,l[i]? =ac y∧f y=x:=dg.mp (dX▸h)
theorem Pw (o:a.Ok) {e:Nat} (g:m=a.hs.length+a.ts.length+e) (h:a.rs≠[]∨e≤a.os.length):
  (a_ a).hs++(a_ a).os.take e++(cx (e-a.os.length) (a_ a).rs).flatten++(a_ a).ts=(cv m).map (fun p=>bX (a.slot m p)):=by
 have l:(cx (e-a.os.length) (a_ a).rs).flatten=cx (e-a.os.length) (bX ((a.rs[0]?).getD [])):=by
  rcases h with h|h
  ·have b:=o.rs;unfold a_;generalize a.rs=r at h b;induction r using List.casesOn with
   |nil=>exact aR rfl h
   |cons x r=>
    induction r using cn with
    |nil=>exact List.flatten_replicate_singleton
    |cons y r=>exact aR b (jh (D7 (m3 _)))
  ·rw[tV h];rfl
 have t:=o.alt.imp fs.mpr fs.mpr;rw[l,show(cv m).map (fun p=>bX (a.slot m p))=(cv (a.hs.length+hF e a.os.length+(e-a.os.length)+a.ts.length)).map fun p=>bX (a.slot m p) by rw[g,ev _ (hF _ _),f_ (hF _ _),Nat.sub_add_min_cancel,tY]];refine wB (wB (wB (sE (aB _) fun i x d c=> ?_) (sE (by rw[nX,show(a_ a).os.length=a.os.length from aB _]) fun i x d c=> ?_)) (sE kX fun i x d c=> ?_)) (sE (aB _) fun i x d c=> ?_)<;>unfold aK.slot
 ·refine ay (xq c) fun y b f=> ?_;rw[aJ d,b];exact f.symm
 ·have k:=ft d (nY _ _);rw[Q7 (ft d (yb _ _))] at c;refine ay (xq c) fun y b f=> ?_;rw[aL (e7 (bu _ _)),aJ (Nat.add_lt_add_left k _),Dw,b,nW,sC (o.nk _ (cG _ (cG _ (eD _ (eR b)))))];exact f.symm
 ·have j:=x9 (gJ (Nat.lt_of_sub_pos (jg (cA _) d)));refine ak j (ak (aL (e7 (ao (bu _ _) (bu _ _)))) (ak (aL (e7 (bu _ _))) ?_));refine ak (aL (by clear t;exact jh (lz (.c 1 (.a (.a .b .f) .g) .j (.c 1 (.a .l .n1) .o (.c 1 (.a .o .p) .g (.g 1 (.a (.a (.a (.a .b .p) .l) .f) .n1) .j)))) rfl (a9 (cB g)) d (a9 (fi (show a.os.length≤e from b5 (.c 1 .b .f (.c 1 .f .g (.g 1 .b .g))) rfl (a9 (cB j)) (yb (e) (a.os.length)))))))) ?_;exact(Q8 (eR c))
 ·refine ay (xq c) fun y b f=> ?_;rw[(t.resolve_right fun h=>rl i (h▸d)),Nat.min_zero,Ez,Et,aL (e7 (ao (bu _ _) (bu _ _))),aL (e7 (ao (bu _ _) (bu _ _))),aJ (by rw[g];clear t c b;exact b7 (.g 1 (.a (.a .b .f) .g) (.a (.a (.a .b .g) .j) .f)) rfl),show a.hs.length+e+i+a.ts.length-m=i by rw[g];clear t c b;exact e8 (eY (.c 1 (.a .b (.a (.a .f .g) .j)) (.a (.a (.a .f .j) .l) .g) (.g 1 .b .l)) rfl (a9 (fi (show a.hs.length+a.ts.length+e≤a.hs.length+e+i+a.ts.length from b7 (.g 1 (.a (.a .b .f) .g) (.a (.a (.a .b .g) .j) .f)) rfl)))) (eY (.c 1 (.a (.a (.a .b .f) .g) .j) (.a .l (.a (.a .b .j) .f)) (.g 1 .g .l)) rfl (g3.mp (bv (a.hs.length+e+i+a.ts.length-(a.hs.length+a.ts.length+e))))),b];exact f.symm
theorem vm {a:Nat}:f9 ah (ac (a:Int)) (.c l)=ac (.c (l.take a)):=by
 by_cases h:a≤l.length
 ·exact xN h
 ·have h:=Nat.le_of_not_le h;show ac (aj.c ((l.take (if(0:Int)≤(a:Int) then hF (a:Int).toNat l.length else((a:Int)+l.length).toNat)).drop 0))=_
  rw[aJ (gG a),py,x9 h,Dy (bv _),Dy h];rfl
theorem Ml (h: -1000≤x) (a:x≤1000) (b:l.length≤1000):eP oo (a5 l) (ae x)=ac (a5 (cx x.toNat l).flatten):=by
 show(if-1000≤x∧x≤1000∧(l.map ag).length≤1000 then ac (aj.c (cx x.toNat (l.map ag)).flatten) else ah)=_
 rw[aJ (fg h a (by rw[aB];exact b))];unfold a5;rw[List.map_flatten,DR]
theorem o7 (h:l.length+m.length≤1000000):eP b9 (a5 l) (a5 m)=ac (a5 (l++m)):=nm h
theorem eB {g:List (List Nat)}:((g.map f).map ag).length=g.length:=by rw[aB,aB]
noncomputable def jO (a:aK) (m:Nat):Int:=(m:Int)-a.hs.length-a.ts.length
theorem Bg {a:aK} {m:Nat} (o:a.Ok) (j:(bm a).length≤50) (A:m≤100):aE 1 287 [.l (jL (a_ a)),.l (ag m)] Y (a5 (iN a m)) [] Y:=yW.of _ _ fun n B=>by
 have j:=gV▸j;have s:a.hs.length≤16777216:=b7 (.c 1 (.a (.a (.a .b .f) .g) .j) (.n 50) (.g 1 .b (.n 16777216))) rfl j;have L:a.os.length≤16777216:=b7 (.c 1 (.a (.a (.a .b .f) .g) .j) (.n 50) (.g 1 .f (.n 16777216))) rfl j;have r:a.rs.length≤16777216:=b7 (.c 1 (.a (.a (.a .b .f) .g) .j) (.n 50) (.g 1 .g (.n 16777216))) rfl j;have t:a.ts.length≤16777216:=b7 (.c 1 (.a (.a (.a .b .f) .g) .j) (.n 50) (.g 1 .j (.n 16777216))) rfl j;have F:jO a m=(m:Int)-a.hs.length-a.ts.length:=rfl;have w:=o.rs;have N (h:¬a.let m):a5 (iN a m)=.c []:=by
  unfold iN;refine ak (aL h) ?_;rfl
 by_cases p:jO a m<0
 ·refine ak (N fun h=>hD.mpr (Ed.mpr (Q9 (gq.mpr h.1))) p) ?_;exact aw 272 [.p (ds:=(a_ a).hs.map ag) eB s,.p (ds:=(a_ a).ts.map ag) eB t,.Q p]
 ·have⟨e,q⟩:∃e:Nat,jO a m=e:=⟨(jO a m).toNat,(DP (hD.mp p)).symm⟩;have b:(a.os.length:Int)<jO a m→(a.rs.length==0)=af→a5 (iN a m)=.c []:=fun i k=>N fun h=>h.2.elim (fun h=>h (fs.mp (dL.mp k))) fun h=>hD.mpr (xS (xS (gq.mpr (b7 (.c 1 .b (.a (.a .f .g) .j) (.g 1 .b (.a (.a .g .j) .f))) rfl h)))) i;have u:m=a.hs.length+a.ts.length+e:=(dh (DG.mp (DG.mp q))).trans (by rw[f_,f_ e,ev]);have E:e≤100:=ao (ao (gH e _) (a9 u.symm)) A;have g (k:(a.os.length:Int)<jO a m→(a.rs.length==0)=ai):iN a m=(a_ a).hs++(a_ a).os.take e++(cx (e-a.os.length) (a_ a).rs).flatten++(a_ a).ts:=by
   have y:a.rs≠[]∨e≤a.os.length:=by
    by_cases i:(a.os.length:Int)<jO a m
    ·exact av fun h=>aR (k i) (by refine ak h ?_;decide)
    ·exact aI (gq.mp (q▸hD.mp i))
   unfold iN;rw[Pw o u y,aJ ⟨u▸bu _ _,y.imp id fun h=>eY (.c 1 .b (.a (.a .f .g) .j) (.c 1 .j .l (.g 1 .b (.a (.a .f .l) .g)))) rfl (a9 u) h⟩]
  have f:(cx (e-a.os.length) (a_ a).rs).flatten.length≤100:=by
   rw[RA,DR,Rd];exact ao (fh _ (ao (a9 (aB _)) w)) (ao (a9 (lR _)) (ao (it ..) E))
  have T:((a_ a).os.take e).length≤50:=by rw[nX,show(a_ a).os.length=a.os.length from aB _];exact eY (.c 1 (.a (.a (.a .b .f) .g) .j) (.n 50) (.c 1 .l .f (.g 1 .l (.n 50)))) rfl j (nY (e) (a.os.length))
  have v:(a_ a).hs.length+(a_ a).ts.length≤50:=by rw[show(a_ a).hs.length=a.hs.length from aB _,show(a_ a).ts.length=a.ts.length from aB _];exact b7 (.c 1 (.a (.a (.a .b .f) .g) .j) (.n 50) (.g 1 (.a .b .j) (.n 50))) rfl j
  have C:f9 ah (ac (jO a m)) (.c ((a_ a).os.map ag))=ac (a5 ((a_ a).os.take e)):=by
   rw[q];exact vm.trans (by unfold a5;rw[rp])
  have c:=Ml (l:=(a_ a).rs) (x:=jO a m-a.os.length) (Q9 (lQ (RE (gq.mpr (b7 (.c 1 (.a (.a (.a .b .f) .g) .j) (.n 50) (.g 1 .f (.n 1000))) rfl j))) (hD.mp p))) (lQ (Int.sub_le_self _ (gG _)) (q▸gq.mpr (aD E rfl))) (ao (a9 (aB _)) (aD w rfl));have c:=(show(jO a m-a.os.length).toNat=e-a.os.length from q▸rq e _)▸c;have d:=o7 (l:=(a_ a).hs) (m:=(a_ a).os.take e) (b5 (.c 1 .b (.n 50) (.c 1 (.a .f .g) (.n 50) (.g 1 (.a .f .b) (.n 1000000)))) rfl T v);have D:=o7 (l:=(a_ a).hs++(a_ a).os.take e) (m:=(cx (e-a.os.length) (a_ a).rs).flatten) (by refine ak bi ?_;exact b7 (.c 1 .b (.n 100) (.c 1 .f (.n 50) (.c 1 (.a .g .j) (.n 50) (.g 1 (.a (.a .g .f) .b) (.n 1000000))))) rfl f T v);have z:=o7 (l:=(a_ a).hs++(a_ a).os.take e++(cx (e-a.os.length) (a_ a).rs).flatten) (m:=(a_ a).ts) (by refine ak bi (ak bi ?_);exact b7 (.c 1 .b (.n 100) (.c 1 .f (.n 50) (.c 1 (.a .g .j) (.n 50) (.g 1 (.a (.a (.a .g .f) .b) .j) (.n 1000000))))) rfl f T v);by_cases i:(a.os.length:Int)<jO a m
  ·induction k:(a.rs.length==0) with
   |true=>
    refine ak (b i k) ?_;exact aw 272 [.p (ds:=(a_ a).hs.map ag) eB s,.p (ds:=(a_ a).ts.map ag) eB t,.H p,.p (ds:=(a_ a).os.map ag) eB L,.P i,.p (ds:=(a_ a).rs.map ag) eB r,.x k]
   |false=>
    refine ak (g fun _=>k) ?_;exact aw 1099511628048 [.p (ds:=(a_ a).hs.map ag) eB s,.p (ds:=(a_ a).ts.map ag) eB t,.H p,.p (ds:=(a_ a).os.map ag) eB L,.P i,.p (ds:=(a_ a).rs.map ag) eB r,.x k,.cut C,.w d,.p (ds:=(a_ a).os.map ag) eB L,.w c,.w D,.w z]
  ·refine ak (g fun h=>aR h i) ?_;exact aw 4294967568 [.p (ds:=(a_ a).hs.map ag) eB s,.p (ds:=(a_ a).ts.map ag) eB t,.H p,.p (ds:=(a_ a).os.map ag) eB L,.S i,.cut C,.w d,.p (ds:=(a_ a).os.map ag) eB L,.w c,.w D,.w z]
theorem B8 {a:aK} (o:a.Ok):∀u∈a.slot m p,u<9:=by
 have G {g:List (List Nat)} {i:Nat} (c:g.Subset (bm a)):∀u∈(g[i]?).getD [],u<9:=fun u b=>by
  induction h:g[i]?with
  |none=>rw[h] at b;nomatch b
  |some k=>rw[h] at b;exact(o.nk k (c (eR h))).1.2.2.1 u b
 unfold aK.slot;split
 ·exact G fun _ h=>cG _ (cG _ (cG _ h))
 ·split
  ·exact fun u b=>(fp.mp b).1
  ·split
   ·exact G fun _ h=>eD _ h
   ·exact G fun _ h=>cG _ (eD _ h)
noncomputable def eh (a b:aK):Bool:=by classical exact aM (db a b)
theorem nC:eh a b=af↔db a b:=by unfold eh;simp
theorem La (h:¬db a b):eh a b=false:=by rw[nV,Ne,nC];exact h
noncomputable def f6 (a b:aK):Nat:=1+max a.fr b.fr+max a.ts.length b.ts.length
theorem Lx (o:a.Ok) (k:b.Ok) (d:1≤a.hs.length) (m:a.c≤b.c) (h:∀n,1≤n→n≤f6 a b→a.let n→b.let n∧∀p,p<n→cz (a.slot n p) (b.slot n p)=af):db a b:=by
 have t:=fun n c=>by
  by_cases l:n≤f6 a b
  ·exact(h n (by unfold aK.let at c;exact b5 (.c 1 .n1 .b (.c 1 (.a .b .f) .g (.g 1 .n1 .g))) rfl d c.1) l c).1
  ·have f:a.rs≠[]:=fun e=>by
    have:a.ts.length=0:=by refine ak (gl fun h=>o.ts h e) ?_;rfl
    rcases c.2 with h|h
    ·exact h e
    ·unfold f6 aK.fr at l;exact Nat.not_succ_le_zero 0 (j' (.c 1 (.a (.a (.a .n1 .b) .f) .n1) .g (.c 1 .j .n0 (.c 1 .g (.a (.a .l .o) .j) (.c 1 (.a .l .o) .b (.g 2 .n1 .n0))))) rfl (Nat.lt_of_not_le l) (Nat.le_of_eq this) h (Nat.le_max_left (a.hs.length+a.os.length) (b.hs.length+b.os.length)))
   have g:=(h (a.hs.length+a.ts.length) (by exact cD (.c 1 .n1 .b (.g 1 .n1 (.a .b .f))) rfl d) (by unfold f6 aK.fr;exact eY (.c 1 (.a .b .f) .g (.c 1 .j .l (.g 1 (.a .b .j) (.a (.a .n1 .g) .l)))) rfl (Nat.le_max_left (a.hs.length+a.os.length) (b.hs.length+b.os.length)) (Nat.le_max_left (a.ts.length) (b.ts.length))) ⟨Nat.le_refl _,.inl f⟩).1;refine⟨by unfold aK.let at g;unfold f6 aK.fr at l;exact eY (.c 1 (.a .b .f) .g (.c 1 (.a .j .l) (.a .b .f) (.g 1 (.a .j .l) .g))) rfl c.1 g.1,.inl ?_⟩
   rcases((h (f6 a b) (by unfold f6;exact cD (.g 1 .n1 (.a (.a .n1 .b) .f)) rfl) (Nat.le_refl _) ⟨by unfold f6 aK.fr;exact eY (.c 1 (.a .b .f) .g (.c 1 .j .l (.g 1 (.a .b .j) (.a (.a .n1 .g) .l)))) rfl (Nat.le_max_left (a.hs.length+a.os.length) (b.hs.length+b.os.length)) (Nat.le_max_left (a.ts.length) (b.ts.length)),.inl f⟩).1).2 with h|h
   ·exact h
   ·exact(Nat.not_le_of_lt (Nat.lt_of_lt_of_le (Nat.lt_add_of_pos_left (aY rfl)) (Nat.le_trans (Nat.le_of_eq (Nat.add_assoc ..).symm) (Nat.add_le_add (Nat.add_le_add_left (Nat.le_max_right a.fr b.fr) 1) (Nat.le_max_right a.ts.length b.ts.length)))) h).elim
 exact⟨m,fun n c=>⟨t n c,(zK o k (by unfold f6;exact cD (.g 1 (.a (.a .b .f) .n1) (.a (.a .n1 .b) .f)) rfl) (fun _=>by unfold f6;exact b5 (.c 1 .b .f (.g 1 .b (.a (.a .n1 .f) .g))) rfl (Nat.le_max_left (a.fr) (b.fr))) t (fun n c i p j=>(h n (by unfold aK.let at i;exact cD (.c 1 (.a .b .n1) .f (.g 1 .n1 .f)) rfl j) c i).2 p j)) n c⟩⟩
theorem A2:(vR.c (ag x) (ag y)).e=ac (ag (max x y)):=by
 show ac (ae (if(x:Int)<(y:Int) then(y:Int) else x))=ac (ae (max x y:Nat))
 by_cases h:x<y
 ·rw[aJ (g5.mpr h),Nat.max_eq_right (gJ h)]
 ·rw[aL fun a=>h (g5.mp a),Nat.max_eq_left (dC h)]
noncomputable def qU (a b:aK):au:=[(93,.l (jL (a_ a))),(94,.l (jL (a_ b))),(24,.l (ag (f6 a b)))]
noncomputable def BK (a b:aK) (m:Nat) (A B:List Nat):au:=qU a b++[(65,.l (ag m)),(68,.l (a5 A)),(69,.l (a5 B))]
theorem Dc (d:Nat→Bool) (h:∀p,p<k→∃x y,A[p]? =ac x∧B[p]? =ac y∧d p= !((x|||y)==y)):
  ca bw (aZ n) (dR 288 [2,3] ah ((cv k).map ag) (BK a b m A B) Y) (pY (if(cv k).any d then ac (aA ai) else ah)) (BK a b m A B) Y:=by
 rw[←tA];refine l4 [2,3] ag (cv k) (fun p=>if d p then ac (aA ai) else ah) _ Y rfl rfl fun p f=>cF (h p (hB.mp f)) fun x y i j l=> ?_
 have G:ez (.c (A.map ag)) (ag p)=ac (ag x):=dF (by rw[dX,i];rfl);have g:ez (.c (B.map ag)) (ag p)=ac (ag y):=dF (by refine ak (dX) (ak j ?_);rfl);have e:=AU (a:=x) (b:=y);refine ak l ?_;induction c:((x|||y)==y) with
 |true=>exact bq 0 [.get G,.get g,.w e,.get g,.M c]
 |false=>exact bq 0 [.get G,.get g,.w e,.get g,.M c]
noncomputable def nl (a b:aK) (m:Nat):Bool:=by classical exact aM (a.let m)&& !(aM (b.let m)&&(cv m).all fun p=>cz (a.slot m p) (b.slot m p))
theorem Cw (h:a.let m):(iN a m).length=m∧∀p,p<m→(iN a m)[p]? =ac (bX (a.slot m p)):=by
 unfold iN;refine ak (aJ h) ?_;exact⟨by rw[aB,gm],fun p b=>by rw[dX,tX b];rfl⟩
theorem AF (h:¬a.let m):iN a m=[]:=by unfold iN;rw[aL h]
theorem Mv {n:Nat} (g:1≤n) (o:a.Ok) (i:b.Ok) (u:(bm a).length≤20) (v:(bm b).length≤20) (j:1≤m) (M:m≤50):
  fc n 288 [2] (he (qU a b)) (ag m) (qU a b) Y (pY (if nl a b m then ac (aA ai) else ah)) (qU a b) Y:=by
 classical
 have c:=Bg (Y:=Y) o (aD u rfl) (aD M rfl) n g;have C:=Bg (Y:=Y) i (aD v rfl) (aD M rfl) n g;have l:m≤16777216:=aD M rfl;have q:m≤100000:=aD M rfl;unfold nl;by_cases h:a.let m
 ·refine(Cw h).elim fun w y=> ?_;rw[cu h,Ee];have k:=cu j;have z:((iN a m).map ag).length=m:=by rw[aB,w]
  by_cases d:b.let m
  ·refine(Cw d).elim fun x D=> ?_;rw[cu d,Ee,List.not_all_eq_any_not];have Z:((iN b m).map ag).length=m:=by rw[aB,x]
   have t:=c5.mpr (lP j);have L:=Dc (n:=n) (m:=m) (a:=a) (b:=b) (Y:=Y) (fun p=> !cz (a.slot m p) (b.slot m p)) fun p f=>⟨_,_,y p f,D p f,by
    have:=qI (B8 (m:=m) (p:=p) o) (B8 (m:=m) (p:=p) i);induction s:cz (a.slot m p) (b.slot m p) with
    |true=>exact(aS not (dL.mpr (this.mpr s))).symm
    |false=>exact(aS not (c5.mpr fun e=>by rw[this.mp e] at s;nomatch s)).symm⟩
   rw[←jW] at L;generalize(cv m).any (fun p=> !cz (a.slot m p) (b.slot m p))=r at L;induction r with
   |true=>exact bq 0 [.call c,.call C,.p z l,.y k,.p Z l,.x t,.p z l,.le q,.sub L]
   |false=>exact bq 0 [.call c,.call C,.p z l,.y k,.p Z l,.x t,.p z l,.le q,.sub L]
  ·have C:=AF d▸C;rw[cP d];exact bq 0 [.call c,.call C,.p z l,.y k]
 ·have c:=AF h▸c;rw[cP h,ye];exact bq 1024 [.call c,.call C,.sub (Dc (n:=n) (m:=m) (a:=a) (b:=b) (A:=[]) (B:=iN b m) (Y:=Y) (fun _=>ai) fun p f=>aR f (rl p))]
theorem yN (h:(bm a).length≤20):a.fr≤20∧a.ts.length≤20:=by
 rw[gV] at h;exact⟨ao (ao (bu _ _) (bu _ _)) h,ao (gH _ _) h⟩
theorem O7 (o:a.Ok) (j:b.Ok) (G:1≤a.hs.length) (l:(bm a).length≤20) (L:(bm b).length≤20):aE 2 288 [.l (jL (a_ a)),.l (jL (a_ b))] Y (aA (eh a b)) [] Y:=yW.of _ _ fun n I=>by
 classical
 have t:f6 a b≤50:=by
  have X:=yN l;have q:=yN L;exact ao (dd (ci (yq.mpr ⟨X.1,q.1⟩) 1) (yq.mpr ⟨X.2,q.2⟩)) (aY rfl)
 have E:f4 1 ((f6 a b:Int)+1)=((cv (f6 a b)).map (1+·)).map ag:=AM 1 (f6 a b);have s:∀m∈(cv (f6 a b)).map (1+·),1≤m∧m≤f6 a b:=fun m h=>by
  exact ay (cr.mp h) fun i N e=>e▸⟨bu 1 i,f_ 1 i▸hB.mp N⟩
 have f:=l4 (b:=ah) [2] ag ((cv (f6 a b)).map (1+·)) (fun m=>if nl a b m then ac (aA ai) else ah) (qU a b) Y rfl rfl fun m h=>Mv I o j l L (s m h).1 (ao (s m h).2 t)
 rw[tA,←E] at f;induction c:aM (b.c<a.c) with
 |true=>
  refine ak (La fun h=>aR h.1 (jh (dB c))) ?_;exact aw 2 [.y c]
 |false=>
  have e:eh a b= !((cv (f6 a b)).map (1+·)).any (nl a b):=by
   rw[List.not_any_eq_all_not,ji,nC,cH];have k {m:Nat}:(!nl a b m)=af↔(a.let m→b.let m∧∀p,p<m→cz (a.slot m p) (b.slot m p)=af):=by
    unfold nl;rw[x5,Bool.and_eq_false_imp,k0,Bool.not_eq_false',fu,k0,cH];exact⟨fun h d=>⟨(h d).1,fun p g=>(h d).2 p (hB.mpr g)⟩,fun h d=>⟨(h d).1,fun p g=>(h d).2 p (hB.mp g)⟩⟩
   refine⟨fun h m _=>k.mpr (h.2 m),fun h=>Lx o j G (dC (rk c)) fun m M P=>k.mp (h m (cr.mpr ⟨m-1,hB.mpr (Nat.sub_one_lt_of_le M P),Nat.add_sub_of_le M⟩))⟩
  refine ak e ?_;have u:1+(f6 a b+1)≤100000:=aD (ci (b3 t) 1) rfl;rw[gV] at l L;have v:a.hs.length≤16777216:=by clear t;exact b7 (.c 1 (.a (.a (.a .b .f) .g) .j) (.n 20) (.g 1 .b (.n 16777216))) rfl l
  have w:a.os.length≤16777216:=by clear t;exact b7 (.c 1 (.a (.a (.a .b .f) .g) .j) (.n 20) (.g 1 .f (.n 16777216))) rfl l
  have z:a.ts.length≤16777216:=by clear t;exact b7 (.c 1 (.a (.a (.a .b .f) .g) .j) (.n 20) (.g 1 .j (.n 16777216))) rfl l
  have A:b.hs.length≤16777216:=by clear t;exact b7 (.c 1 (.a (.a (.a .b .f) .g) .j) (.n 20) (.g 1 .b (.n 16777216))) rfl L
  have B:b.os.length≤16777216:=by clear t;exact b7 (.c 1 (.a (.a (.a .b .f) .g) .j) (.n 20) (.g 1 .f (.n 16777216))) rfl L
  have C:b.ts.length≤16777216:=by clear t;exact b7 (.c 1 (.a (.a (.a .b .f) .g) .j) (.n 20) (.g 1 .j (.n 16777216))) rfl L
  have D:=A2 (x:=a.fr) (y:=b.fr);have F:=A2 (x:=a.ts.length) (y:=b.ts.length);generalize((cv (f6 a b)).map (1+·)).any (nl a b)=r at f;induction r with
  |true=>exact aw 137742065938 [.y c,.p (ds:=(a_ a).hs.map ag) eB v,.p (ds:=(a_ a).os.map ag) eB w,.p (ds:=(a_ b).hs.map ag) eB A,.p (ds:=(a_ b).os.map ag) eB B,.F D,.p (ds:=(a_ a).ts.map ag) eB z,.p (ds:=(a_ b).ts.map ag) eB C,.F F,.le u,.sub f]
  |false=>exact aw 137742065938 [.y c,.p (ds:=(a_ a).hs.map ag) eB v,.p (ds:=(a_ a).os.map ag) eB w,.p (ds:=(a_ b).hs.map ag) eB A,.p (ds:=(a_ b).os.map ag) eB B,.F D,.p (ds:=(a_ a).ts.map ag) eB z,.p (ds:=(a_ b).ts.map ag) eB C,.F F,.le u,.sub f]
noncomputable def fF (a:aK) (p:Nat):Nat:=match a.rd p with
 |some k=>bX k
 |none=>0
theorem PC {l:List (List Nat)}:∀{h:Nat},(l.map bX).foldl (·|||·) h=h|||bX l.flatten:=by
 induction l with
 |nil=>exact(SX _).symm
 |cons k l i=>intro h;rw[eE,t8,i,DZ,C0,ue]
abbrev hn:=Nat→Option Nat
theorem Lc (o:a.Ok) (c:p<a.fr):((a_ a).hs++(a_ a).os)[p]? =ac (fF a p):=by
 have b:(a_ a).hs.length=a.hs.length:=aB _;unfold fF aK.rd;by_cases h:p<a.hs.length
 ·rw[aJ h,jF (b▸h),cS h];show(a.hs.map bX)[p]? =_;rw[dX,cS h];rfl
 ·have d:=tT (dC h) c;rw[aL h,aJ c,jE (b▸dC h),b,cS d];show(a.os.map fun k=>bX k|||256)[p-a.hs.length]? =ac (bX (cM (a.os[p-a.hs.length]++[8])));rw[dX,cS d,sC (o.nk _ (cG _ (cG _ (eD _ (k1 _)))))];rfl
theorem I4 (o:a.Ok) (c:¬p<a.fr):fF a p=((a_ a).rs++(a_ a).ts).foldl (·|||·) 0:=by
 show _=((a.rs.map bX)++(a.ts.map bX)).foldl (·|||·) 0;rw[←cm,PC,Nat.zero_or];unfold fF aK.rd;rw[aL fun h=>c (ft h (bu _ _)),aL c];by_cases h:a.rs=[]
 ·have t:=gl fun d=>o.ts d h;refine ak (aJ h) (ak h (ak t ?_));rfl
 ·exact ak (aL h) (AI fun u b=>(ay (t3.mp b) fun k e b=>(o.nk k ((dD.mp e).elim (fun h=>cG _ (eD _ h)) (eD _))).1.2.2.1 u b))
theorem On (o:a.Ok) (l:(bm a).length≤20):aE 1 289 [.l (jL (a_ a)),.l (ag p)] Y (ag (fF a p)) [] Y:=yW.of _ _ fun n q=>by
 have l:=gV▸l;have d:=o7 (m:=(a_ a).os) (by rw[show(a_ a).hs.length=a.hs.length from aB _,show(a_ a).os.length=a.os.length from aB _];exact b7 (.c 1 (.a (.a (.a .b .f) .g) .j) (.n 20) (.g 1 (.a .b .f) (.n 1000000))) rfl l);have L:(((a_ a).hs++(a_ a).os).map ag).length=a.fr:=by
  rw[aB,bi];exact congr (aS _ (aB _)) (aB _)
 have f:a.fr≤16777216:=by unfold aK.fr;exact b7 (.c 1 (.a (.a (.a .b .f) .g) .j) (.n 20) (.g 1 (.a .b .f) (.n 16777216))) rfl l
 by_cases e:p<a.fr
 ·have G:ez (.c (((a_ a).hs++(a_ a).os).map ag)) (ag p)=ac (ag (fF a p)):=dF (by refine ak (dX) (ak (Lc o e) ?_);rfl);have c:=cu e;exact aw 2 [.w d,.p L f,.A c,.get G]
 ·have D:=o7 (m:=(a_ a).ts) (by refine ak (show(a_ a).rs.length=a.rs.length from aB _) (ak (show(a_ a).ts.length=a.ts.length from aB _) ?_);exact b7 (.c 1 (.a (.a (.a .b .f) .g) .j) (.n 20) (.g 1 (.a .g .j) (.n 1000000))) rfl l);refine ak (I4 o e) ?_;generalize(a_ a).rs++(a_ a).ts=F at D;have i:=(qt (n:=n) (g:=289) (b:=ah) [3] ag F (·|||·) (fun h=>[(92,.l (jL (a_ a))),(11,.l (ag p)),(35,.l (a5 ((a_ a).hs++(a_ a).os))),(17,.l (ag h))]) (fun _=>Y) (fun _=>True) 0 trivial rfl fun h _ j _=>⟨trivial,a',av rfl,by
   have k:(vR.B iw (ag h) (ag j)).e=ac (ag (h|||j)):=zQ;exact bq 0 [.B k],rfl⟩).2
  exact aw 8194 [.w d,.p L f,.A (cP e),.w D,.sub i]
noncomputable def ic (f:hn) (p u:Nat):hn:=fun q=>if q=p then ac u else f q
noncomputable def jv (a:aK) (p:Nat) (ws:List hn):List hn:=ws.flatMap fun f=>((a.hs[p]?).getD []).map fun u=>ic f p u
noncomputable def h9 (a:aK) (H:List Nat):List hn:=H.foldl (fun w p=>jv a p w) [fun _=>ah]
theorem tC:h9 a (H++[p])=jv a p (h9 a H):=by unfold h9;refine ak rc ?_;rfl
theorem uJ:(jv a p ws).length=((a.hs[p]?).getD []).length*ws.length:=by
 unfold jv;induction ws with
 |nil=>simp
 |cons f ws i=>rw[D0,bi,i,aB,mY,EH,lR,f_]
theorem tE {P:List b→Prop} (h:P []) (a:∀l x,P l→P (l++[x])):∀l,P l:=fun l=>by
 rw[←List.reverse_reverse l];induction l.reverse with
 |nil=>exact h
 |cons x r i=>rw[DX];exact a _ x i
theorem Ct (H:List Nat):(h9 a H).length=H.foldr (fun p n=>((a.hs[p]?).getD []).length*n) 1:=by
 have k:∀(H:List Nat) (c:Nat),H.foldr (fun p n=>((a.hs[p]?).getD []).length*n) c=H.foldr (fun p n=>((a.hs[p]?).getD []).length*n) 1*c:=by
  intro H;induction H with
  |nil=>intro c;simp
  |cons p H i=>intro c;rw[Sa,i,Sa,Ek]
 refine tE (P:=fun H=>(h9 a H).length=H.foldr (fun p n=>((a.hs[p]?).getD []).length*n) 1) rfl (fun l x i=> ?_) H;rw[tC,uJ,i,List.foldr_append,Ev]
 conv=>rhs;rw[k]
 simp
theorem Me {f:hn} (H:List Nat) (n:H.Nodup):f∈h9 a H↔∀p,(p∈H→∃u,f p=ac u∧u∈(a.hs[p]?).getD [])∧(p∉H→f p=ah):=by
 revert f n
 refine tE (P:=fun H=>∀{f:hn},H.Nodup→(f∈h9 a H↔∀p,(p∈H→∃u,f p=ac u∧u∈(a.hs[p]?).getD [])∧(p∉H→f p=ah))) ?_ ?_ H
 ·intro f _;constructor
  ·exact fun h p=>ak (bW.mp h) (⟨(fun h=>nomatch h),fun _=>rfl⟩)
  ·exact fun h=>bW.mpr (funext fun p=>(h p).2 (fun h=>nomatch h))
 ·intro l x i f n;rw[ke] at n;obtain⟨j,_,d⟩:=n;have k:=fun h=>d x h x (by simp) rfl;refine ak tC ?_;unfold jv;rw[pz];constructor
  ·rintro ⟨g,o,r⟩ p;refine ay (cr.mp r) fun u c y=> ?_;subst y;have:=(i j).mp o p;by_cases b:p=x
   ·subst b;exact⟨fun _=>bd u (by unfold ic;rw[aJ rfl]) c,fun h=>aR (by simp) h⟩
   ·have m:p∈l++[x]↔p∈l:=by simp[b]
    rw[m];unfold ic;exact ak (aL b) this
  ·refine fun h=>ay ((h x).1 (by simp)) fun u c m=>bd (fun q=>if q=x then ah else f q) ((i j).mpr fun p=> ?_) (cr.mpr ⟨u,m,funext fun q=> ?_⟩)
   ·by_cases b:p=x
    ·subst b;exact⟨fun h=>aR h k,fun _=>by simp⟩
    ·have:=h p;have s:p∈l++[x]↔p∈l:=by simp[b]
     rw[s] at this;simp only[aL b];exact this
   ·unfold ic;by_cases e:q=x
    ·subst e;rw[aJ rfl,c]
    ·rw[aL e];exact aL e
theorem KA {a:aK} (c:p<a.hs.length):(a_ (a.pick f)).hs.take p++[e0 u]++(a_ (a.pick f)).hs.drop (p+1)=(a_ (a.pick (ic f p u))).hs:=by
 show((a.hs.mapIdx (gv f)).map bX).take p++[e0 u]++((a.hs.mapIdx (gv f)).map bX).drop (p+1)=(a.hs.mapIdx (gv (ic f p u))).map bX;have l:((a.hs.mapIdx (gv f)).map bX).length=a.hs.length:=by simp
 have d:(((a.hs.mapIdx (gv f)).map bX).take p).length=p:=by rw[nX,l];exact t9 (gJ c)
 refine x4 fun q=> ?_;by_cases h:q<p
 ·have e:q<a.hs.length:=b5 (.c 1 (.a .b .n1) .f (.c 1 (.a .g .n1) .b (.g 1 (.a .g .n1) .f))) rfl c h;rw[ef,jF (by exact b5 (.c 1 .b .f (.c 1 (.a .g .n1) .b (.g 1 (.a .g .n1) .f))) rfl (a9 (cB d)) h),Q7 h,dX,dX,nU,nU,cS e];unfold ic gv;simp[hZ h]
 ·rw[ef,jE (by exact b5 (.c 1 .b .f (.c 1 .f .g (.g 1 .b .g))) rfl (a9 d) (dC h)),d];by_cases b:q=p
  ·subst b;rw[pE,dX,nU,cS c];unfold ic gv;simp[bX]
  ·rw[jE (by simp;exact tZ (rb (dC h) (oh b))),RM,DD,dX,dX,nU,nU,show p+1+(q-p-1)=q from ra (rb (dC h) (oh b))];unfold ic gv;simp[b]
structure o2 (p:Nat) (d:List aK) (G:List Nat):Prop where
 nd:G.Nodup
 of:∀x∈G,∃b∈d,∃k,b.rd p=ac k∧x=bX k
 to:∀b∈d,∀k,b.rd p=ac k→bX k∈G
theorem De {b:aK} (o:b.Ok) (h:b.rd p=ac k):gh k:=by
 have c:∀k∈bm b,e3 k:=o.nk;unfold aK.rd at h;split at h
 ·exact(c k (by unfold bm;simp[eR h])).1
 ·split at h
  ·induction d:b.os[p-b.hs.length]?with
   |none=>rw[d] at h;injection h
   |some a=>
    rw[d] at h;injection h with h;subst h;exact lc ⟨8,by simp,by decide⟩
  ·split at h
   ·injection h
   ·rename_i r;injection h with h;subst h;obtain⟨a,e⟩:=nS _ r;have:=c a (by unfold bm;simp[e]);obtain⟨u,f⟩:=nS _ this.1.1;exact lc (bd u (t3.mpr ⟨a,by simp[e],f⟩) (this.1.2.2.1 u f))
theorem o2.tells (o:∀b∈ls,b.Ok) (g:o2 p ls G):(1<G.length∧0<(G.filter fun x=>aM (x&&&20=0)).length)↔me ls p:=by
 have n:∀b∈ls,∀k,b.rd p=ac k→gh k:=fun b a k h=>De (o b a) h;constructor
 ·rintro ⟨A,B⟩;refine⟨?_, ?_⟩
  ·match C:G,g.nd,A with
   |x::y::r,N,_=>
    refine sz fun _ q=> ?_;obtain⟨b,a,k,E,f⟩:=g.of x (by simp);obtain⟨c,j,l,s,D⟩:=g.of y (by simp);refine q (⟨b,a,c,j,k,l,E,s,fun e=> ?_⟩);have:x=y:=by rw[f,D,e]
    subst this;simp at N
  ·refine(nS _ (jf.mp B)).elim fun x i=>sz fun _ q=> ?_;obtain⟨m,u⟩:=c_.mp i;obtain⟨b,a,k,E,f⟩:=g.of x m;refine q ?_;exact⟨b,a,k,E,(AX (n b a k E).2.2.1).mp (by rw[←f];simpa using u)⟩
 ·refine fun Z=>sz fun _ q=> ?_;obtain⟨⟨b,a,c,j,k,l,E,f,F⟩,d,v,w,s,u⟩:=Z;have i:=g.to b a k E;have t:=g.to c j l f;refine q (⟨?_,jf.mpr (xZ (c_.mpr ⟨g.to d v w s,by simpa using(AX (n d v w s).2.2.1).mpr u⟩))⟩)
  match C:G,i,t with
  |[z],i,t=>exact aR ((bW.mp i).trans (bW.mp t).symm) (fun e=>F (xa (n b a k E) (n c j l f) e))
  |_::_::_,_,_=>simp
theorem Qn:eP uA (ag a) (ag b)=ac (ag (a&&&b)):=by
 show ac (ae (D4 a b))=_;rw[Nq]
theorem NH (h:∀p:Nat,((a.hs[p]?).getD []).length≤9):∀H:List Nat,(h9 a H).length≤9^H.length:=
 tE (bv 1) fun l x i=>by
  rw[tC,uJ,bi,DD,Nat.pow_succ,Ev];exact k2 i (h x)
noncomputable def bR (b:aK):aj:=jL (a_ b)
noncomputable def d0 (a:aK) (f:hn):aj:=jL (a_ (a.pick f))
noncomputable def co (a:aK) (H:List aK):List hn:=by classical exact if 1<cw a H∧cw a H<26 then h9 a (gf a H) else[]
theorem AS {H:List aK} (o:a.Ok) (f:1≤a.hs.length) (l:(bm a).length≤20) (h:∀b∈H,ij b) (j:H.length≤8):aE 3 291 [.l (bR a),.l (.c (H.map bR))] Y (.c ((H.filter (eh a)).map bR)) [] Y:=yW.of _ _ fun n k=>by
 have i:(H.map bR).length≤b4:=by rw[aB];exact aD j rfl
 have C:=fM (g:=291) [0] 0 58 bR H (fun b=>if eh a b then[bR b] else[]) [(92,.l (bR a)),(63,.l (.c (H.map bR)))] Y fun b d=>by
  have c:=O7 (Y:=Y) o (h b d).ok f l (aD (h b d).c rfl) n k;induction e:eh a b with
  |true=>rw[e] at c;exact cX 0 [.call c]
  |false=>rw[e] at c;exact cX 0 [.call c]
 rw[nI] at C;exact aw 0 [.le i,.sub C]
section
variable{a:aK}
noncomputable def lK (a:aK) (H:List aK) (s:ig):au:=[(20,.l (bN a)),(63,.l (.c (H.map bR))),(95,s)]
theorem o2.put (o:b.Ok) (g:o2 p d G) (q:0<fF b p) (Q:fF b p∉G):o2 p (d++[b]) (G++[fF b p]):=by
 have e {k:List Nat} (h:b.rd p=ac k):fF b p=bX k:=by unfold fF;rw[h]
 refine⟨ke.mpr ⟨g.nd,gn.mpr ⟨kh,h7⟩,fun x i y m e=>Q (bW.mp m▸e▸i)⟩,i3 (fun x i=>let⟨c,j,h⟩:=g.of x i;⟨c,cG _ j,h⟩) ?_,i3 (fun c j f l=>cG _ (g.to c j f l)) fun f l=> ?_⟩
 ·induction r:b.rd p with
  |none=>unfold fF at q;rw[r] at q;exact aR q (gI 0)
  |some f=>exact⟨b,eD _ (cU _),f,r,e r⟩
 ·exact e l▸eD _ (cU _)
theorem o2.skip (o:b.Ok) (g:o2 p d G) (q:0<fF b p→fF b p∈G):o2 p (d++[b]) G:=by
 refine⟨g.nd,fun x j=>let⟨c,i,h⟩:=g.of x j;⟨c,cG _ i,h⟩,i3 (fun c i k f=>g.to c i k f) fun k f=> ?_⟩
 have e:fF b p=bX k:=by unfold fF;rw[f]
 exact e▸q (e▸F3 (De o f))
theorem Pi (v:∀b∈H,ij b) (t:H.length≤8) (s:ig) {G:Prop} (q:∀ms,o2 p H ms→ms.length≤8→(∀n,1≤n→ca bw (aZ n) (dR 290 [1,1] ah (H.map bR) (lK a H s++[(11,.l (ag p)),(46,bE (.c []))]) Y) a' (lK a H s++[(11,.l (ag p)),(46,bE (.c (ms.map ag)))]) Y)→G):G:=
 kR [1,1] bR H (fun ms=>lK a H s++[(11,.l (ag p)),(46,bE (.c (ms.map ag)))]) (fun _=>Y) (fun d ms=>o2 p d ms∧ms.length≤d.length) [] ⟨⟨h7,(fun _ h=>nomatch h),fun _ h=>nomatch h⟩,bv _⟩ rfl
  (fun D b r ms e ⟨g,f⟩ z q=>by
   have P:=v b (eO e);have y:=ao (by rw[e,bi];exact bu _ _) t;have c:=On (p:=p) (Y:=Y) P.ok (aD P.c rfl);have j:cZ (ag (fF b p)) (.c (ms.map ag))=ac (ms.contains (fF b p)):=by rw[←sy];exact v6
   have m:=kL (l:=ms.map ag) (x:=ag (fF b p)) (by rw[aB];exact ao f (aD y rfl));have u:ms.length≤(D++[b]).length:=ao f (by rw[bi];exact bu _ _);induction k:aM (0<fF b p) with
   |false=>
    refine q ms ⟨g.skip P.ok fun h=>aR h (rk k),u⟩ rfl fun n i=> ?_;have c:=c n i;exact bq 0 [.call c,.y k]
   |true=>
    induction o:ms.contains (fF b p) with
    |true=>
     refine q ms ⟨g.skip P.ok fun _=>ee.mp o,u⟩ rfl fun n i=> ?_;have c:=c n i;rw[o] at j;exact bq 0 [.call c,.y k,.has j]
    |false=>
     refine q (ms++[fF b p]) ⟨g.put P.ok (dB k) (fun h=>nomatch o.symm.trans (ee.mpr h)),by rw[bi,bi];exact b3 f⟩ rfl fun n i=> ?_;have c:=c n i;rw[o] at j;rw[cm];exact bq 0 [.call c,.y k,.has j,.u m])
  fun ms ⟨g,f⟩ w=>q ms g (ao f t) w
structure BY (a:aK) (H:List aK) (p:Nat) (k:List Nat) (W:List hn):Prop where
 f:a.hs[p]? =ac k
 kk:e3 k
 W:W.length≤81
 h3:a.hs.length≤3
theorem E6 (h:u<8):ez (.j [ae 1,ae 2,ae 8,ae 32,ae 64,ae 128,ae 7,ae 24]) (ag u)=ac (ag (e0 u)):=
 v' (P:=fun j=>ez (.j [ae 1,ae 2,ae 8,ae 32,ae 64,ae 128,ae 7,ae 24]) (ag j)=ac (ag (e0 j))) rfl rfl rfl rfl rfl rfl rfl rfl h
noncomputable def nv (a:aK) (H:List aK) (p:Nat) (W:List hn) (ms us:List Nat) (X:List hn):au:=lK a H (.l (.c (W.map (d0 a))))++[(11,.l (ag p)),(46,.l (a5 ms)),(59,bE (.c (us.map ag))),(60,bE (.c (X.map (d0 a))))]
theorem Jr (h:BY a H p k W) (j:X.length≤729):
  ca bw (aZ n) (dR 290 [1,3,0,1,0] ah (k.map ag) (nv a H p W ms us X++[(80,.l (a5 (a_ (a.pick f)).hs)),(82,.l (a5 (a_ (a.pick f)).os)),(66,.l (a5 (a_ (a.pick f)).rs)),(83,.l (a5 (a_ (a.pick f)).ts)),(7,.l (ag (a_ (a.pick f)).c))]) Y) a'
   (nv a H p W ms us (X++k.map (ic f p))++[(80,.l (a5 (a_ (a.pick f)).hs)),(82,.l (a5 (a_ (a.pick f)).os)),(66,.l (a5 (a_ (a.pick f)).rs)),(83,.l (a5 (a_ (a.pick f)).ts)),(7,.l (ag (a_ (a.pick f)).c))]) Y:=by
 obtain⟨x,_,L⟩:=hr (n:=n) (g:=290) (b:=ah) [1,3,0,1,0] ag k (fun d (_:Unit)=>nv a H p W ms us (X++d.map (ic f p))++[(80,.l (a5 (a_ (a.pick f)).hs)),(82,.l (a5 (a_ (a.pick f)).os)),(66,.l (a5 (a_ (a.pick f)).rs)),(83,.l (a5 (a_ (a.pick f)).ts)),(7,.l (ag (a_ (a.pick f)).c))]) (fun _ _=>Y) (fun _ _=>True) () trivial rfl fun D u r x e _=>⟨(),a',trivial,av rfl,by
  have P:=(hy.mp h.f).1;have i:(a_ (a.pick f)).hs.length≤3:=by unfold a_;rw[aB,lB];exact h.h3
  have G:=E6 (h.kk.lt (eO e));have c:f9 ah (ac (p:Int)) (.c ((a_ (a.pick f)).hs.map ag))=ac (a5 ((a_ (a.pick f)).hs.take p)):=vm.trans (by unfold a5;rw[rp]);have C:f9 (ac ((p:Int)+1)) ah (.c ((a_ (a.pick f)).hs.map ag))=ac (a5 ((a_ (a.pick f)).hs.drop (p+1))):=(qp).trans (by unfold a5;rw[yg]);have B:eP b9 (a5 ((a_ (a.pick f)).hs.take p)) (.c [ag (e0 u)])=ac (a5 ((a_ (a.pick f)).hs.take p++[e0 u])):=nm (m:=[e0 u]) (aD (b3 (show _≤3 by rw[nX];exact ao (nY _ _) i)) rfl);have o:eP b9 (a5 ((a_ (a.pick f)).hs.take p++[e0 u])) (a5 ((a_ (a.pick f)).hs.drop (p+1)))=ac (a5 (a_ (a.pick (ic f p u))).hs):=by
   rw[←KA P];exact o7 (by rw[bi,nX,rg,DD];exact b5 (.c 2 .b (.n 3) (.c 1 .f .b (.c 1 .g .b (.g 1 (.a (.a .f .n1) .g) (.n 1000000))))) rfl i (nY (p) ((a_ (a.pick f)).hs.length)) (it ((a_ (a.pick f)).hs.length) (p+1)))
  have q:=ao (by rw[e,bi];exact bu _ _) h.kk.1.len;have M:=kL (l:=(X++D.map (ic f p)).map (d0 a)) (x:=.j [a5 (a_ (a.pick (ic f p u))).hs,a5 (a_ (a.pick f)).os,a5 (a_ (a.pick f)).rs,a5 (a_ (a.pick f)).ts,ag (a_ (a.pick f)).c]) (by rw[aB,bi,aB];exact aD (dd j q) rfl);rw[cm (l₂:=[u]),←ef];unfold nv;rw[cm (l₂:=[u].map _)];exact bq 4096 [.cut c,.get G,.w B,.cut C,.w o,.u M],rfl⟩
 rw[SE,c8] at L;exact L
theorem GZ (h:BY a H p k W):
  ca bw (aZ n) (dR 290 [1,3,0,1] ah (W.map (d0 a)) (nv a H p W ms us []) Y) a' (nv a H p W ms us (jv a p W)) Y:=by
 have G:ez (.c (a.hs.map a5)) (ag p)=ac (a5 k):=dF (by rw[dX,h.f];rfl);obtain⟨x,_,l⟩:=hr (n:=n) (g:=290) (b:=ah) [1,3,0,1] (d0 a) W (fun d (_:Unit)=>nv a H p W ms us (jv a p d)) (fun _ _=>Y) (fun _ _=>True) () trivial rfl fun D f r x e _=>⟨(),a',trivial,av rfl,by
  have c:=ao (by rw[e,bi];exact bu _ _) h.W;have X:(jv a p D).length≤729:=by rw[uJ,h.f,nW];exact k2 h.kk.1.len c
  have w:=Jr (n:=n) (f:=f) (ms:=ms) (us:=us) (Y:=Y) h X;have E:jv a p (D++[f])=jv a p D++k.map (ic f p):=by
   unfold jv;rw[DN,DC,h.f];rfl
  rw[E];exact bq 1 [.get G,.sub w],rfl⟩
 exact l
structure Tb (a:aK) (H:List aK) (d:List Nat) (x:List hn×Bool):Prop where
 W:x.1=h9 a (d.filter (jZ a H))
theorem Lr (s:fb a) (q:Nat):((a.hs[q]?).getD []).length≤9:=by
 induction h:a.hs[q]?with
 |none=>exact cA _
 |some x=>exact(s.kk x (cG _ (cG _ (cG _ (eR h))))).1.len
theorem BU (s:fb a) (h:l.length≤d):(h9 a l).length≤9^d:=ao (NH (Lr s) _) (Nat.pow_le_pow_right (by decide) h)
abbrev MJ (a:aK) (H:List aK) (Y:ar) (p:Nat) (x X:List hn×Bool):Prop:=∀n,1≤n→fc n 290 [1] (he (lK a H (jP af (.c ([(fun _=>ah)].map (d0 a)))))) (ag p) (lK a H (jP x.2 (.c (x.1.map (d0 a))))) Y a' (lK a H (jP X.2 (.c (X.1.map (d0 a))))) Y
theorem Ny {x:List hn×Bool} (h:BY a H p k x.1) (t:∀b∈H,ij b) (z:H.length≤8) {v:Prop} (q:∀b,MJ a H Y p x (if jZ a H p then jv a p x.1 else x.1,b)→v):v:=by
 refine Pi (a:=a) (p:=p) (Y:=Y) t z (jP x.2 (.c (x.1.map (d0 a)))) fun ms g y l=> ?_;have s:jZ a H p=(aM (1<k.length)&&(aM (1<ms.length)&&aM (0<(ms.filter fun x=>aM (x&&&20=0)).length))):=by
  rw[ji,nM,h.f,nW,←g.tells fun b A=>(t b A).ok,fu,fu,k0,k0,k0]
 have G:ez (.c (a.hs.map a5)) (ag p)=ac (a5 k):=dF (by rw[dX,h.f];rfl);have L:k.length≤16777216:=aD h.kk.1.len rfl;have o:ms.length≤16777216:=aD y rfl;have u:(ms.filter fun x=>aM (x&&&20=0)).length≤16777216:=ao (hY _ _) o;have I:(ms.map ag).length≤b4:=by rw[aB];exact aD y rfl
 have C (n:Nat):=fM (n:=n) (g:=290) [1,2] 0 58 ag ms (fun m=>if aM (m&&&20=0) then[ag m] else[]) (lK a H (jP x.2 (.c (x.1.map (d0 a))))++[(11,.l (ag p)),(46,.l (a5 ms))]) Y fun m _=>by
  have B:=Qn (a:=m) (b:=20);induction c:(m&&&20==0) with
  |true=>
   rw[cu (dL.mp c)];exact cX 0 [.w B,.x c]
  |false=>
   rw[cP (c5.mp c)];exact cX 0 [.w B,.x c]
 have w (n:Nat):=GZ (n:=n) (ms:=ms) (us:=ms.filter fun x=>aM (x&&&20=0)) (Y:=Y) h;rw[nI] at C;generalize(ms.filter fun x=>aM (x&&&20=0))=us at*;rw[s] at q;induction d:aM (1<k.length) with
 |false=>
  refine q x.2 fun n e=> ?_;rw[d];have l:=l n e;have C:=C n;exact bq 4096 [.sub l,.le I,.sub C,.get G,.p (ds:=k.map ag) (aB _) L,.y d]
 |true=>
  induction f:aM (1<ms.length) with
  |false=>
   refine q x.2 fun n e=> ?_;rw[d,f];have l:=l n e;have C:=C n;exact bq 4096 [.sub l,.le I,.sub C,.get G,.p (ds:=k.map ag) (aB _) L,.y d,.p (ds:=ms.map ag) (aB _) o,.y (i:=ms.length) (j:=1) f]
  |true=>
   induction r:aM (0<us.length) with
   |false=>
    refine q x.2 fun n e=> ?_;rw[d,f,r];have l:=l n e;have C:=C n;exact bq 4096 [.sub l,.le I,.sub C,.get G,.p (ds:=k.map ag) (aB _) L,.y (i:=k.length) (j:=1) d,.p (ds:=ms.map ag) (aB _) o,.y (i:=ms.length) (j:=1) f,.p (ds:=us.map ag) (aB _) u,.y (i:=us.length) (j:=0) r]
   |true=>
    refine q ai fun n e=> ?_;rw[d,f,r];have l:=l n e;have C:=C n;have w:=w n;have⟨W,b⟩:=x;clear s q h;induction b with
    |true=>exact bq 4096 [.sub l,.le I,.sub C,.get G,.p (ds:=k.map ag) (aB _) L,.y (i:=k.length) (j:=1) d,.p (ds:=ms.map ag) (aB _) o,.y (i:=ms.length) (j:=1) f,.p (ds:=us.map ag) (aB _) u,.y (i:=us.length) (j:=0) r,.sub w]
    |false=>exact bq 4096 [.sub l,.le I,.sub C,.get G,.p (ds:=k.map ag) (aB _) L,.y (i:=k.length) (j:=1) d,.p (ds:=ms.map ag) (aB _) o,.y (i:=ms.length) (j:=1) f,.p (ds:=us.map ag) (aB _) u,.y (i:=us.length) (j:=0) r,.sub w]
theorem qH (h:aM (i<j)=b):(wK.s eU (ag i) (ag j)).e=ac b:=by
 rw[←h];exact aS ac (n7.mpr g5)
theorem Kp:a.pick (fun _=>ah)=a:=by
 unfold aK.pick;rw[show a.hs.mapIdx (gv fun _=>ah)=a.hs from x4 fun i=>by rw[nU];exact Option.map_id' ..]
theorem F9 (s:fb a) (o:∀b∈H,ij b) (t:H.length≤8):aE 3 290 [.l (bN a),.l (.c (H.map bR))] Y (.c ((co a H).map (d0 a))) [] Y:=by
 have c:=s8 (Y:=Y) s.kk (aD s.small.1 rfl);rw[show jL (a_ a)=d0 a (fun _=>ah) by unfold d0;rw[Kp]] at c;have L:a.hs.length≤16777216:=aD s.h3 rfl;have f:a.hs.length≤100000:=aD s.h3 rfl
 refine kR (N:=(1≤·)) (g:=290) (b:=ah) [1] ag (cv a.hs.length) (fun x:List hn×Bool=>lK a H (jP x.2 (.c (x.1.map (d0 a))))) (fun _=>Y) (Tb a H) ([fun _=>ah],af) ⟨rfl⟩ rfl
  (fun D p r x e h B q=> ?_) fun x h l=> ?_
 ·have P:=hB.mp (eO e);have u:=cS P;have z:D.length≤2:=by
   have:=aS gK e;rw[gm,bi,mY] at this;exact q8 (ao (ao (ci (m3 _) _) (a9 this.symm)) s.h3)
  refine Ny ⟨u,s.kk _ (cG _ (cG _ (cG _ (eR u)))),h.W▸BU s (ao (hY _ _) z),s.h3⟩ o t fun b A=>q _ ⟨?_⟩ rfl A;rw[pv,rh];cases jZ a H p with
  |true=>exact(aS _ h.W).trans (tC).symm
  |false=>exact h.W.trans (aS _ (c8 _).symm)
 ·have m:x.1=h9 a (gf a H):=h.W;have w:x.1.length≤16777216:=aD (m▸BU s (d:=3) (ao (hY _ _) (by rw[gm];exact s.h3))) rfl;have E:co a H=if(aM (1<x.1.length)&&aM (x.1.length<26))=af then x.1 else[]:=by
   rw[m,show(h9 a (gf a H)).length=cw a H from Ct _];exact ite_congr (propext (by rw[fu,k0,k0])) (fun _=>rfl) fun _=>rfl
  rw[E];rw[←jW] at l;refine yW.of _ _ fun n v=> ?_;have l:=l n (bl v rfl);have c:=c n v;clear m h E s o t;have⟨W,b⟩:=x;induction k:aM (1<W.length) with
  |false=>induction b<;>exact aw 16 [.call c,.p (ds:=a.hs.map a5) (aB _) L,.le f,.sub l,.p (ds:=W.map (d0 a)) (aB _) w,.z (qH k)]
  |true=>
   induction y:aM (W.length<26) with
   |false=>induction b<;>exact aw 16 [.call c,.p (ds:=a.hs.map a5) (aB _) L,.le f,.sub l,.p (ds:=W.map (d0 a)) (aB _) w,.z (qH k),.z (qH y)]
   |true=>induction b<;>exact aw 16 [.call c,.p (ds:=a.hs.map a5) (aB _) L,.le f,.sub l,.p (ds:=W.map (d0 a)) (aB _) w,.z (qH (i:=1) (j:=W.length) k),.z (qH (i:=W.length) (j:=26) y)]
end
theorem Iu {l:List (List Nat)}:∀{g:Nat→List Nat→List Nat},(∀i k,l[i]? =ac k→(g i k).length≤k.length)→
  ((l.mapIdx g).map fun k=>k.length+1).sum≤(l.map fun k=>k.length+1).sum∧((∃(i:Nat) (k:List Nat),l[i]? =ac k∧(g i k).length<k.length)→((l.mapIdx g).map fun k=>k.length+1).sum<(l.map fun k=>k.length+1).sum):=by
 induction l with
 |nil=>exact fun h=>⟨bv _,fun z=>bK z fun i k h _=>iM h⟩
 |cons a l I=>
  intro g h;have c:=h 0 a rfl;refine(I (g:=fun i=>g (i+1)) fun i k b=>h (i+1) k b).elim fun d f=>ak List.mapIdx_cons (ak eE (ak eE (ak n8 (ak n8 (⟨dd (b3 c) d,fun z=>bK z fun i k b e=> ?_⟩)))));induction i using ir with
  |zero=>exact Nat.add_lt_add_of_lt_of_le (D7 (bD b▸e)) d
  |succ i=>exact Nat.add_lt_add_of_le_of_lt (b3 c) (f (cN i k b e))
theorem Ax {a:aK} (o:a.Ok):(a.pick f).W≤a.W∧((∃p k u,a.hs[p]? =ac k∧f p=ac u∧1<k.length)→(a.pick f).W<a.W):=by
 have b:∀k∈bm a,e3 k:=o.nk;obtain⟨h,c⟩:=Iu (l:=a.hs) (g:=gv f) fun i k d=>by
  unfold gv;split
  ·have:=(b k (by unfold bm;simp[eR d])).1.1;exact jf.mpr this
  ·exact bv _
 refine ak sG (ak sG (⟨?_,fun z=>jS z fun p k u e E j=> ?_⟩))
 ·exact dc (dc (dc h _) _) _
 ·have:=c (cN p k e (by unfold gv;refine ak E ?_;exact j));exact xV (xV (xV this _) _) _
theorem Mo {a:aK} (o:a.Ok) (g:iQ a ls f) (h:1<cw a ls):(a.pick f).W<a.W:=by
 refine(Ax o).2 ?_;have i:gf a ls≠[]:=fun e=>by unfold cw at h;rw[e] at h;simp at h
 obtain⟨p,c⟩:=nS _ i;refine ay ((g p).1 c) fun u j _=> ?_;have b:=(nM.mp (c_.mp c).2).1;obtain⟨k,d⟩:∃k,a.hs[p]? =ac k:=⟨_,cS (H3 c)⟩;rw[d] at b;exact mT p k u d j b
theorem oG.inj (I:aW R) (h:oG R E l) (h':oG R e l):E=e:=by
 induction h generalizing e with
 |nil=>cases h';rfl
 |cons p r i=>cases h' with|cons P a=>rw[p.uniq I P,i a]
theorem cg.inj (I:aW R) (h:cg R i a) (h':cg R j a):i=j:=by
 rcases h.2 with⟨e,k,O,r,p,q,Q,c,l⟩|⟨E,r,s,f⟩<;>rcases h'.2 with⟨n,o,u,b,P,T,g,t,v⟩|⟨w,b,S,F⟩
 ·rw[c] at t;simp only[List.cons.injEq,and_true] at t;subst t;rw[p.uniq I P] at r;exact oM I.nd r b
 ·unfold aK.fr at F;rw[q,Q] at F;exact absurd F (Nat.lt_irrefl 0)
 ·unfold aK.fr at f;rw[T,g] at f;exact absurd f (Nat.lt_irrefl 0)
 ·rw[s.inj I S] at r;exact oM I.nd r b
theorem z6 {m:List d} (h:∀x∈l,∀y∈m,f x=f y→x=y) (e:l.map f=m.map f):l=m:=by
 have b:l.length=m.length:=by rw[←aB,e,aB]
 refine List.ext_getElem b fun i a c=>h _ (k1 a) _ (k1 c) ?_;rw[←R8 f (h:=by rw[aB];exact a),←R8 f];exact List.getElem_of_eq e _
theorem HD (o:a.Ok) (z:b.Ok) (e:a_ a=a_ b):a=b:=by
 have d:∀k∈bm a,e3 k:=o.nk;have f:∀k∈bm b,e3 k:=z.nk;refine jc (JB.mk.inj e) fun q u v w g=> ?_;obtain⟨s,B,C,t,r⟩:=a;obtain⟨D,F,G,T,R⟩:=b;dsimp only at q u v w;have m:∀{l L:List (List Nat)},(∀k∈l,e3 k)→(∀k∈L,e3 k)→l.map bX=L.map bX→l=L:=fun h A e=>z6 (fun x i y j e=>xa (h x i).1 (A y j).1 e) e;have E:=z6 (fun x i y j e=>by
  have n:=d x (by unfold bm;simp[i]);have p:=f y (by unfold bm;simp[j]);have e:=e;rw[←sC n,←sC p] at e;have:=xa (lc (bd 8 (by simp) (by decide))) (lc (bd 8 (by simp) (by decide))) e;exact A0 (mk:=1) n.1 p.1 n.2 p.2 this) u
 refine ak (m (fun k c=>d k (by unfold bm;simp[c])) (fun k c=>f k (by unfold bm;simp[c])) q) ?_;refine ak E ?_;refine ak (m (fun k c=>d k (by unfold bm;simp[c])) (fun k c=>f k (by unfold bm;simp[c])) v) ?_;refine ak (m (fun k c=>d k (by unfold bm;simp[c])) (fun k c=>f k (by unfold bm;simp[c])) w) ?_;have g:r=R:=g;rw[g]
noncomputable def nN (b a:aK):Bool:=by classical exact aM (b=a)
theorem vc:nN b a=af↔b=a:=by unfold nN;simp
theorem JQ (n:Nat) (l:List Nat):aj.plain (n+1) (a5 l)=true:=cH.mpr fun x h=>by
 refine ay (cr.mp h) fun j _ y=> ?_;subst y;induction n<;>rfl
theorem Jd (o:a.Ok) (g:b.Ok):tN (bR b) (bR a)=ac (nN b a):=by
 have h:∀x:aK,aj.plain 8 (bR x)=true:=fun x=>by
  show([a5 (a_ x).hs,a5 (a_ x).os,a5 (a_ x).rs,a5 (a_ x).ts,ag (a_ x).c].all (aj.plain 7))=af;simp only[m0,SF,JQ 6];rfl
 have i:aj.beq (bR b) (bR a)=nN b a:=by
  show(hX ((a_ b).hs.map ag) ((a_ a).hs.map ag)&&(hX ((a_ b).os.map ag) ((a_ a).os.map ag)&&(hX ((a_ b).rs.map ag) ((a_ a).rs.map ag)&&(hX ((a_ b).ts.map ag) ((a_ a).ts.map ag)&&(aj.beq (ag (a_ b).c) (ag (a_ a).c)&&af)))))=_;rw[q0,q0,q0,q0,my,n9,ji];simp only[fu,n6];rw[vc];constructor
  ·refine fun z=>jc z fun e E c d f=>HD g o ?_;cases j:a_ b;cases k:a_ a;rw[j,k] at e E c d f;simp only at e E c d f;rw[e,E,c,d,f]
  ·rintro rfl;exact⟨rfl,rfl,rfl,rfl,rfl⟩
 show(if(aj.plain 8 (bR b)&&aj.plain 8 (bR a))=af then ac (aj.beq (bR b) (bR a)) else ah)=_
 rw[h,h,i];rfl
theorem JF (h:∀l,l∈ls↔l∈L):me ls p↔me L p:=by unfold me;simp only[h]
theorem CU (h:∀l,l∈ls↔l∈L):gf a ls=gf a L:=by
 unfold gf;congr 1
 funext p
 rw[ji,nM,nM,JF h]
theorem qV (h:∀l,l∈ls↔l∈L):cw a ls=cw a L:=by unfold cw;rw[CU h]
theorem u4 (h:∀l,l∈ls↔l∈L):iQ a ls f↔iQ a L f:=by unfold iQ;refine ak (CU h) ?_;rfl
theorem Db (h:∀l,l∈ls↔l∈L):hw a ls↔hw a L:=by
 unfold hw;refine ak (qV h) ?_;simp only[u4 h,h]
theorem w5:(co a H≠[]↔1<cw a H∧cw a H<26)∧(co a H≠[]→(co a H).length=cw a H∧∀f,f∈co a H↔iQ a H f)∧(hw a H↔co a H≠[]∧∀f∈co a H,∃l∈H,db (a.pick f) l):=by
 have n:(gf a H).Nodup:=D2.sublist mX;have y:1<cw a H∧cw a H<26→co a H=h9 a (gf a H):=fun h=>by unfold co;rw[aJ h]
 have b:(h9 a (gf a H)).length=cw a H:=Ct _;have k:co a H≠[]↔1<cw a H∧cw a H<26:=by
  constructor
  ·exact fun h=>gl fun g=>h (by unfold co;rw[aL g])
  ·intro h e;rw[y h] at e;rw[e] at b;simp at b;exact kY 0 (dN (.c 1 .b .n0 (.c 1 (.a .n1 .n1) .b (.g 2 .n1 .n0))) rfl (a9 (cB b)) h.1)
 have c:co a H≠[]→(co a H).length=cw a H∧∀f,f∈co a H↔iQ a H f:=fun h=>by
  rw[y (k.mp h)];exact⟨b,fun f=>Me _ n⟩
 refine fg k c (⟨fun h=>⟨k.mpr h.1,fun f d=>h.2 f (((c (k.mpr h.1)).2 f).mp d)⟩,fun h=>⟨k.mp h.1,fun f d=>h.2 f (((c h.1).2 f).mpr d)⟩⟩)
theorem JY (q:cT row (c9 R)=af) (a:dA row (c9 R)=ai) (h:R.length≤1000000):aE 1 3242 [.l (an 0),.l row] (aF R::J) (ag R.length) [] (aF (R++[row])::J):=yW.of _ _ fun n _=>by
 have b:cZ row (.e (c9 R))=ac false:=by show(if cT row (c9 R) then ac (dA row (c9 R)) else ah)=_;rw[aJ q,a]
 have c:fL 3 (.c R) [row]=ac (a4,.c (R++[row])):=aJ (h);have d:gT (.e (c9 R)) row (ag R.length)=ac (.e (c9 (R++[row]))):=by
  show(if cT row (c9 R)∧(c9 R).length≤b4 then _ else _)=_
  rw[aJ ⟨q,by rw[CG];exact h⟩,tJ a,zC]
 exact aw 0 [.has b,.O (aD h rfl),.u c,.set d]
theorem JN:((cv 16).all fun j=>match dT[j]?with
 |some r=>cT r (c9 (dT.take j))&& !dA r (c9 (dT.take j))&&(aj.key 8 r&&ja r)
 |none=>ai)=true:=by kernel_rfl
theorem we:dT.length=16:=by kernel_rfl
theorem xB (h:dT[j]? =ac r):cT r (c9 (dT.take j))=af∧dA r (c9 (dT.take j))=ai∧lF r:=by
 have b:j<16:=by rw[←we];exact(hy.mp h).1
 have:=cH.mp JN j (hB.mpr b);rw[h] at this;exact(bS.mp this).elim fun a c=>fg ((bS.mp a).1) ((x5 _).mp (bS.mp a).2) (bS.mp c)
theorem Oc:aW dT:=by
 have k:∀r∈dT,lF r:=fun r h=>(q_ h).elim fun j Z=>Z.elim fun b e=>(xB (e▸cS b)).2.2;refine⟨?_,k,[],(c8 _).symm⟩;have n:=tE (P:=fun d=>∀r,dT=d++r→d.Nodup) (fun _ _=>h7) fun d x i r e=>by
  have E:=e.trans (ef ..);refine dQ (xB (j:=d.length) (r:=x) (by rw[E,jE (bv _),pE];rfl)) fun _ a l=> ?_;rw[E,t_] at a;refine ke.mpr ⟨i _ E,gn.mpr ⟨kh,h7⟩,fun y c z f h=> ?_⟩;have:dA x (c9 d)=true:=(xp (fun p g=>⟨8,(k p.1 (by
   have:p.1∈(c9 d).map (·.1):=cr.mpr (bd p g rfl);rw[oz] at this;exact E▸cG _ this)).1⟩)).mpr (by rw[oz];exact bW.mp f▸h▸c)
  exact nomatch a.symm.trans this
 exact n dT [] (c8 _).symm
theorem FQ:aE 2 3240 [.l (an 0)] [⟨156,[]⟩] a4 [] [aF dT]:=yW.of _ _ fun n f=>by
 obtain⟨x,_,l⟩:=hr (n:=n) (g:=3240) (b:=ah) [10] id dT (fun _ (_:Unit)=>[(100,.l (an 0))]) (fun d _=>[aF d]) (fun _ _=>True) () trivial rfl fun d r R x e _=>⟨(),a',trivial,av rfl,by
  have⟨h,a,k⟩:=xB (j:=d.length) (r:=r) (by rw[e,jE (bv _),pE];rfl);rw[e,t_] at h a;have i:d.length≤1000000:=aD (ao (by rw[e,bi];exact bu _ _) (a9 we)) rfl;have c:=JY (J:=[]) h a i n f;exact bq 0 [.call c],rfl⟩
 rw[ui] at l;exact aw 0 [.sub l]
theorem IM:aE 1 6280 [.l (an 1),.l (an 0)] [aF R,⟨232,[]⟩] a4 [] [aF R,bF]:=yW.of _ _ fun n h=>by exact aw 0 []
noncomputable def gU (r:List (aj×aj)):oD:=l9 (b1 (.e r)) [] [] 0 0 1 3 af a4
theorem Hq:aE 1 1360 [.l (an 3)] [aF R,bF,i,⟨109,[]⟩] a4 [] [aF R,bF,i,ek 0]:=yW.of _ _ fun n h=>by exact aw 0 []
theorem HZ:aE 2 4920 [.l (an 2),.l (an 1),.l (ae 1)] [aF R,bF,⟨198,[]⟩] a4 [] [aF R,bF,gU [],ek 0]:=yW.of _ _ fun n h=>by
 exact aw 0 [.call (Hq (R:=R) (i:=⟨198,[(11,.l (an 1)),(13,.l (ag 1)),(1,b1 (.e [])),(16,b1 (.e [])),(21,b1 (.e [])),(15,b1 (.c [])),(48,b1 (.c [])),(20,.l (ag 0)),(19,.l (ag 0))]⟩) n h)]
theorem Ib:aE 1 274 [.l (an 2)] [aF R,bF,gU [],ek 0] a4 [] [aF R,bF,gU [(ae 4,an 4)],ek 0,⟨273,[]⟩]:=yW.of _ _ fun n h=>by exact aw 0 []
theorem JZ:aE 1 259 [.l (an 2)] [aF R,bF,gU [(ae 4,an 4)],ek 0,⟨273,[]⟩] a4 [] [aF R,bF,gU [(ae 4,an 4),(ae 12,an 5)],ek 0,⟨273,[]⟩,⟨257,[]⟩]:=yW.of _ _ fun n h=>by exact aw 0 []
theorem Gw:aE 1 258 [.l (an 2)] [aF R,bF,gU [(ae 4,an 4),(ae 12,an 5)],ek 0,⟨273,[]⟩,⟨257,[]⟩] a4 [] (fe.st R):=yW.of _ _ fun n h=>by exact aw 0 []
theorem Pq:∀N:Nat,hX (cx N (.j [ae 3,ae 0])) (cx N (.j [ae 3,ae 0]))=af
 |0=>rfl
 |N+1=>Pq N
noncomputable def C7:List aj→List (aj×aj)
 |[]=>[]
 |_=>[(ae 3,ae 0)]
theorem Hw {m:bh} (N:m.N≤100000):aE 1 1362 [.l (an 3)] (m.st R) (.c (if m.N=0 then[] else[ae 3])) [] (m.st R):=yW.of _ _ fun n a=>by
 have c:=Pq m.N;obtain⟨x,_,l⟩:=hr (n:=n) (g:=1362) (b:=ac (3,0)) [1] id (cx m.N (.j [ae 3,ae 0])) (fun d (_:Unit)=>[(100,.l (an 3)),(10,bE (.e (C7 d)))]) (fun _ _=>m.st R) (fun _ _=>True) () trivial rfl fun d r f x e _=>⟨(),a',trivial,av rfl,by
  cases Q8 (eO e);clear e c N;induction d using cn with
  |nil=>exact bq 0 []
  |cons _ _=>exact bq 0 [],by rw[ui];exact c⟩
 rw[ui] at l;have E:C7 (cx m.N (.j [ae 3,ae 0]))=if m.N=0 then[] else[(ae 3,ae 0)]:=by cases m.N<;>rfl
 rw[E] at l;by_cases h:m.N=0
 ·rw[aJ h] at l⊢;exact aw 0 [.sub l]
 ·rw[aL h] at l⊢;exact aw 0 [.sub l]
structure iB (R:List aj) (a:aK) (s t:Nat) (O:List Nat) (isL:Nat→Bool) (A:Nat→aK) (H:List aK):Prop where
 I:aW R
 sa:fb a
 W:a.W≤20
 row:∃E,R[s]? =ac (.j [ae 12,.j (bf E),ag a.c])∧b6 R E a.els
 t:CQ R t O isL
 parts:l5 R O isL A
 i:O.length≤9
 R:R.length≤450000
 pl:H.length≤8
 pok:∀b∈H,ij b
 g:(O.filter isL).length≤8
 mem:∀l,l∈(O.filter isL).map A↔l∈H
theorem s5:a.els.length=(bm a).length:=by rw[nc,gV]
theorem y9 (a:x≤20) (b:y≤5) (h:102≤c):x*y+2≤c:=ao (dc (k2 a b) 2) h
noncomputable def kc (a:aK) (H:List aK):Nat:=by classical exact if 1<cw a H then 97 else 102
theorem Dd (b:x≤8) (d:1≤k) (c:cw a H≤k):kc a H*x*cw a H≤776*k+40:=by
 unfold kc;split
 ·exact ao (k2 (fh 97 b) c) (bu _ _)
 ·rename_i h;exact ao (k2 (fh 102 b) (dC h)) (bl (dc (fh 776 d) 40) rfl)
theorem Md {O:List Nat} {H:List aK} (h:∀l,l∈(O.filter isL).map A↔l∈H):∀l,l∈(O.reverse.filter isL).map A↔l∈H:=fun l=>by
 rw[←h l,RD,R7,x7]
noncomputable def mF (a b:aK):Bool:=aM (b.c=1)||nN b a
theorem v3:l≠[]↔∃x,x∈l:=⟨nS l,fun z=>z.elim fun _ h=>xZ h⟩
section
variable{R:List aj} {t:Nat}
theorem iB.fr (h:iB R a s t O isL A H):0<a.fr:=ft h.sa.d (bu _ _)
theorem iB.li (h:iB R a s t O isL A H):cg R s a:=ay h.row fun _ b e=>.d h.sa.ok b e h.fr
theorem iB.els (h:iB R a s t O isL A H) (b:j∈O.filter isL):(A j).els.length≤5∧A j∈H:=
 have m:=(h.mem (A j)).mp (cr.mpr (bd j b rfl))
 ⟨s5▸(h.pok _ m).c,m⟩
theorem iB.pt (h:iB R a s t O isL A H):gY R t O:=by
 rcases h.t with⟨e,b⟩|⟨b,f,j,_⟩
 ·have l:=((h.parts t (e▸ .head _)).1 b).1;refine cF l.at fun r w k m _=> ?_;exact⟨fun e=>aR (l.ge h.I) (by refine ak e ?_;decide),av ⟨r,w,k,m,e⟩⟩
 ·exact⟨f,aI ⟨b,j⟩⟩
theorem iB.cost (h:iB R a s t O isL A H):∀f,iQ a H f→∀j∈O.filter isL,(a.pick f).W*(A j).els.length+2≤kc a H:=fun f e j k=>by
 have b:=(h.els k).1;unfold kc;split
 ·rename_i l;exact ao (dc (k2 (iW (ft (Mo h.sa.ok e l) h.W)) b) 2) (bv 97)
 ·exact y9 (ao (Ax h.sa.ok).1 h.W) b (bv _)
theorem iB.mono (h:iB R a s t O isL A H) (x:bL R r) (b:aW r) (z:r.length≤450000):iB r a s t O isL A H:=
 ⟨b,h.sa,h.W,ay h.row fun E e f=>bd E (x.at e) (f.mono x),h.t.imp id fun h=>⟨x.at h.1,h.2⟩,h.parts.mono x,h.i,z,h.pl,h.pok,h.g,h.mem⟩
theorem iB.c (h:iB R a s t O isL A H):mu a O isL A↔H.filter (eh a)≠[]:=by
 rw[v3];exact⟨fun z=>ay z fun j f l=>⟨_,c_.mpr ⟨(h.els f).2,nC.mpr l⟩⟩,fun z=>z.elim fun b k=>by
  refine(c_.mp k).elim fun m n=>ay (cr.mp ((h.mem b).mpr m)) fun j f e=> ?_;exact bd j f (e▸nC.mp n)⟩
theorem iB.d (h:iB R a s t O isL A H):qv a s O isL A↔(H.filter (eh a)).filter (mF a)≠[]:=by
 have l {j:Nat} (f:j∈O.filter isL):cg R j (A j):=((h.parts j (c_.mp f).1).1 (c_.mp f).2).1;rw[v3];refine⟨fun z=>eA z fun j f o q=> ?_,fun z=>z.elim fun b p=> ?_⟩
 ·have m:=(h.els f).2;exact⟨_,c_.mpr ⟨c_.mpr ⟨m,nC.mpr o⟩,RG.mpr (q.imp (fun q=>cu (e8 (h.pok _ m).ok.c (x1 q))) fun(e:s=j)=>vc.mpr ((l f).uniq h.I (e▸h.li)))⟩⟩
 ·refine(c_.mp p).elim fun n k=>(c_.mp n).elim fun n r=>ay (cr.mp ((h.mem b).mpr n)) fun j f e=> ?_;subst e;refine g2 j f (nC.mp r) ((RG.mp k).imp (fun k=>by rw[dB k];decide) fun k=> ?_);have e:=l f;rw[vc.mp k] at e;exact h.li.inj h.I e
end
theorem H8 (h:(co a H).length<13) (c:cw a H<26):cw a H≤12:=by
 refine dQ (w5 (a:=a) (H:=H)) fun d e _=> ?_;by_cases b:1<cw a H
 ·exact iW ((e (d.mpr ⟨b,c⟩)).1▸h)
 ·exact aD (dC b) rfl
theorem L9:(co a H).length≤26:=by
 refine dQ (w5 (a:=a) (H:=H)) fun b c _=> ?_;by_cases h:co a H=[]
 ·exact ak h (cA _)
 ·exact ak ((c h).1) (gJ (b.mp h).2)
inductive mD (R:List aj):List Nat→List aK→Prop
 |nil:mD R [] []
 |cons {j:Nat} {b:aK} {ls:List Nat} {H:List aK}:cg R j b→mD R ls H→mD R (j::ls) (b::H)
section
theorem mD.mono (x:bL R r) (h:mD R ls H):mD r ls H:=h.rec .nil fun a _ i=>.cons (a.mono x) i
theorem mD.snoc (h:mD R ls H) (c:cg R j b):mD R (ls++[j]) (H++[b]):=h.rec (.cons c .nil) fun a _ i=>.cons a i
theorem mD.len (h:mD R ls H):ls.length=H.length:=h.rec rfl fun _ _ i=>aS (·+1) i
theorem mD.to (h:mD R ls H):∀j∈ls,∃b∈H,cg R j b:=h.rec (fun _ h=>(by cases h)) fun a _ i=>pp.mpr ⟨(bd _ (cU _) a),fun j c=>ay (i j c) fun b d e=>bd b (e9 _ d) e⟩
theorem mD.fr (h:mD R ls H):∀b∈H,∃j∈ls,cg R j b:=h.rec (fun _ h=>(by cases h)) fun a _ i=>pp.mpr ⟨(bd _ (cU _) a),fun b c=>ay (i b c) fun j d e=>bd j (e9 _ d) e⟩
noncomputable def uQ (R:List aj) (j:Nat):aK:=by classical exact if h:∃l,cg R j l then h.choose else⟨[],[],[],[],0⟩
theorem vu (I:aW R) (h:cg R j b):uQ R j=b:=by
 have x:∃l,cg R j l:=⟨b,h⟩;unfold uQ;exact ak (dif_pos x) (x.choose_spec.uniq I h)
noncomputable def Pn (ls:List Nat) (j:Nat):Bool:=ls.contains j
theorem KH (S:fb a) (W:a.W≤20) (row:∃E,R[s]? =ac (.j [ae 12,.j (bf E),ag a.c])∧b6 R E a.els) (d:mD R ls H) (v:1≤H.length) (p:H.length≤8) (P:∀b∈H,ij b) (n:us=[]∨∃i u,us=[i]∧cq R i u)
  (u:Nz Q ls us t R O) (w:R.length≤450000):iB R a s t O (Pn ls) (uQ R) H:=by
 have I:=u.I;have L:=d.len▸p;have U:us.length≤1:=n.elim (fun h=>h▸cA _) fun z=>bK z fun i u h _=>h▸bv _;refine ay (d.fr H[0] (k1 v)) fun o q _=> ?_;have T:=ee.mpr q;have m:=(u.m o).mpr (cG _ q);refine⟨I,S,W,row, ?_,fun j c=>⟨fun h=> ?_,fun h=> ?_⟩,ao u.l (dd L U),w,p,P, ?_,fun l=> ?_⟩
 ·refine u.t.imp (fun e=>⟨e, ?_⟩) fun z=>z.elim fun r x=>⟨r,fun e=>(Bn I r).n2 (aS k6 e),x,o,m,T⟩;rw[e] at m;exact bW.mp m▸T
 ·exact ay (d.to j (ee.mp h)) fun b f k=>ak (vu I k) (⟨k,aD (s5▸(P b f).c) rfl⟩)
 ·refine(dD.mp ((u.m j).mp c)).elim (fun g=>nomatch h.symm.trans (ee.mpr g)) fun g=> ?_;rcases n with e|⟨i,u,e,y⟩<;>rw[e] at g
  ·nomatch g
  ·exact⟨u,List.mem_singleton.mp g▸y⟩
 ·exact Nat.le_trans ((u.nd.sublist List.filter_sublist).length_le_of_subset fun j c=>List.contains_iff_mem.mp (List.mem_filter.mp c).2) L
 ·refine⟨fun h=> ?_,fun h=> ?_⟩
  ·refine ay (List.mem_map.mp h) fun j c e=>ay (d.to j (ee.mp (c_.mp c).2)) fun b f k=> ?_;rw[←e,vu I k];exact f
  ·exact ay (d.fr l h) fun j c f=>cr.mpr ⟨j,c_.mpr ⟨(u.m j).mpr (cG _ c),ee.mpr c⟩,vu I f⟩
end
noncomputable def PH (ns ms:List Int) (c:b0) (b:Bool):au:=[(96,.l (.c (ns.map ae))),(97,.l (.c (ms.map ae))),(74,bE c),(79,.l (aA b))]
noncomputable def kv (ns ms:List Int) (c:b0) (b:Bool) (a:aK) (H:List aK):au:=PH ns ms c b++[(20,.l (bN a)),(18,.l (.c (H.map bN))),(1,.l (an 0))]
noncomputable def kQ (ns ms:List Int) (c:b0) (b:Bool) (a:aK) (H:List aK) (X:List Nat) (s t:Nat):au:=kv ns ms c b a H++[(32,.l (.c (X.map ag))),(29,.l (ag s)),(19,.l (ag t))]
noncomputable def ej (ns ms:List Int) (c:b0) (b:Bool) (a:aK) (H:List aK) (X:List Nat) (s t:Nat) (ch:Bool):au:=kQ ns ms c b a H X s t++[(63,.l (.c (H.map bR))),(95,.l (.c ((co a H).map (d0 a)))),(62,.l (aA ch))]
section
structure N4 (d:List aK) (x:List Nat×List aj):Prop where
 I:aW x.2
 z:x.2.length≤16+60*d.length
 l:mD x.2 x.1 d
theorem OP (p:H.length≤8) (P:∀b∈H,ij b) {G:Prop} (q:∀ls R,N4 H (ls,R)→(∀n,6≤n→ca bw (aZ n) (ep 295 [6] 0 59 (H.map bN) (kv ns ms c b a H) [aF dT]) (.h (.c (ls.map ag))) (kv ns ms c b a H) [aF R])→G):G:=
 qN (N:=(6≤·)) (g:=295) [6] 0 59 bN H (fun x:List Nat×List aj=>x.1.map ag) (fun _=>kv ns ms c b a H) (fun x=>[aF x.2]) N4 ([],dT) ⟨Oc,a9 we,.nil⟩ rfl
  (fun D j k x e f l q=>by
   have d:D.length≤8:=ao (by rw[e,bi];exact bu _ _) p;refine Bm (J:=[]) f.I (P j (eO e)) (ao f.z (aD (ci (fh 60 d) 16) rfl)) fun t r h M=> ?_;refine q (x.1++[t],r) [ag t] ⟨M.I,by rw[bi];exact ao M.z (dc f.z 60),(f.l.mono M.x).snoc M.li⟩ cm fun n i=> ?_;have h:=h n i;clear q f M P p e d;exact cX 0 [.call h])
  fun x f w=>q x.1 x.2 f w
theorem Ie (e:2≤n) (p:∀b∈H,ij b):ca bw (aZ n) (ep 295 [10] 0 59 (H.map bN) (kQ ns ms c b a H X s t) Y) (.h (.c (H.map bR))) (kQ ns ms c b a H X s t) Y:=by
 have C:=fM (n:=n) (g:=295) [10] 0 59 bN H (fun b=>[bR b]) (kQ ns ms c b a H X s t) Y fun j d=>by
  have h:=s8 (Y:=Y) (p j d).ok.nk (aD (p j d).c rfl) n e;clear p d;exact cX 0 [.call h]
 rw[←kd] at C;exact C
structure S9 (a:aK) (H:List aK) (d:List hn) (ch:Bool):Prop where
 ch:ch=af↔co a H≠[]∧∀f∈d,∃l∈H,db (a.pick f) l
theorem IJ (S:fb a) (D:H.length≤8) (P:∀b∈H,ij b) {G:Prop} (q:∀ch,(ch=af↔hw a H)→(∀n,3≤n→ca bw (aZ n) (dR 295 [13] ah ((co a H).map (d0 a)) (ej ns ms c b a H X s t (aM (0<(co a H).length))) Y) a' (ej ns ms c b a H X s t ch) Y)→G):G:=by
 have⟨E,W,A⟩:=w5 (a:=a) (H:=H)
 refine kR (N:=(3≤·)) (g:=295) (b:=ah) [13] (d0 a) (co a H) (fun ch=>ej ns ms c b a H X s t ch) (fun _=>Y) (S9 a H) (aM (0<(co a H).length)) ⟨by rw[k0,jf];exact⟨fun h=>⟨h,fun _ h=>nomatch h⟩,fun h=>h.1⟩⟩ rfl
  (fun d f r ch e x Z q=> ?_) fun ch x w=>q ch (x.ch.trans A.symm) w
 have z:iQ a H f:=((W (xZ (eO e))).2 f).mp (eO e);have o:(a.pick f).Ok:=An S.ok fun p u I k U=>by
  by_cases M:p∈gf a H
  ·have⟨v,Q,m⟩:=(z p).1 M;rw[I] at Q;cases Q;rw[U] at m;exact m
  ·exact nomatch I.symm.trans ((z p).2 M)
 have F:(bm (a.pick f)).length=(bm a).length:=by
  rw[gV,gV,lB];rfl
 have C:=AS (H:=H) (Y:=Y) o (by rw[lB];exact S.d) (by rw[F];exact aD S.small.1 rfl) P D;have L:(H.filter (eh (a.pick f))).length≤16777216:=ao (hY _ _) (aD D rfl);have y:0<(H.filter (eh (a.pick f))).length↔∃l∈H,db (a.pick f) l:=by
  rw[jf,v3];exact k3 fun l=>by rw[c_,nC]
 cases k:((H.filter (eh (a.pick f))).length==0) with
 |true=>
  have R:¬∃l∈H,db (a.pick f) l:=fun h=>aR (y.mpr h) (by rw[dL.mp k];decide);refine q ai ⟨⟨(fun h=>hU h),fun h=>aR (h.2 f (eD _ (cU _))) R⟩⟩ rfl fun n B=> ?_;have C:=C n B;clear y R E W A z o F x q S P;exact bq 0 [.call C,.p (ds:=(H.filter (eh (a.pick f))).map bR) (aB _) L,.x (i:=(H.filter (eh (a.pick f))).length) (j:=0) k]
 |false=>
  have T:=y.mp (x1 (c5.mp k));refine q ch ⟨x.ch.trans ⟨fun h=>⟨h.1,i3 h.2 T⟩,fun h=>⟨h.1,fun g V=>h.2 g (cG _ V)⟩⟩⟩ rfl fun n B=> ?_;have C:=C n B;clear y T E W A z o F x q S P;exact bq 0 [.call C,.p (ds:=(H.filter (eh (a.pick f))).map bR) (aB _) L,.x (i:=(H.filter (eh (a.pick f))).length) (j:=0) k]
end
theorem Iw (o:eC R [] m):eC R [] {m with tel:=ai}:=⟨o.nd,o.kt,o.kok,o.aok,o.len,o.a,o.N⟩
section
theorem Po (h:iB R a s t O isL A H) (k:eC R [] m) (w:d6 m.tw) (v:cw a H<26→m.a+kc a H*(O.filter isL).length*cw a H+1≤20000) (N:cw a H<26→m.N≤60000) (p:m.dp<58) (x:ch=af↔hw a H)
  {G:Prop} (q:∀(g:bh) i,aE 28 256 [.l (an 2),.l (ag s),.l (.c (O.reverse.map ag))] (({m with tel:=ai}:bh).st R) (aA ch) [] (g.st i)→G):G:=by
 have⟨E,y,u⟩:=h.row;have M:=Md h.mem;have l:(O.reverse.filter isL).length=(O.filter isL).length:=by rw[RD,DM]
 have n {j:Nat} (b:j∈O.reverse.filter isL):j∈O.filter isL:=c_.mpr ⟨x7.mp (c_.mp b).1,(c_.mp b).2⟩;have z:E.length≤50:=ao (a9 (u.len.trans s5)) (aD h.sa.small.1 rfl)
 refine CT (m:={m with tel:=ai}) (R:=R) (Pr:=[]) (E:=E) (O:=O.reverse) (isL:=isL) (A:=A) (X:=.c (O.reverse.map ag)) (c:=kc a H) h.I ⟨Iw k,w,h.sa.ok,u,z,h.fr,h.sa.h3,fun j b=>⟨?_, ?_⟩,ao (a9 l) (aD h.g rfl),(fun _ h=>nomatch h),fun f B j b=>h.cost f ((u4 M).mp B) j (n b),p,aI ⟨rfl,rfl⟩,aD h.R rfl⟩ y (aI rfl) (fun j b=>h.parts j (x7.mp b)) (by rw[DM];exact aD h.i rfl)
  (fun d=>by rw[qV M] at d⊢;rw[l];exact v d) (fun d=>N (by rw[qV M] at d;exact d)) k.N fun g i r C o=>q g i ?_
 ·exact((h.parts j (c_.mp (n b)).1).1 (c_.mp b).2).1
 ·exact aD (h.els (n b)).1 rfl
 ·have e:r=ch:=by rw[ji,o.iff,Db M,x]
  exact e▸C
noncomputable def oR (a:aK) (H:List aK) (ch:Bool):Bool:=(((H.filter (eh a)).filter (mF a)).length==0)&&(aM (0<(H.filter (eh a)).length)||(ch&&(a.c==0)))
theorem Oy:(l.length==0)=af↔¬l≠[]:=by rw[dL,fs,Classical.not_not]
theorem E7 (h:iB R a s t O isL A H) (y:R.length≤5000) (w:(co a H).length<13) (I:ch=af↔hw a H)
  {G:Prop} (q:∀(m:bh) n,aE 54 4921 [.l (an 2),.l (ag s),.l (ag t)] (fe.st R) (aA (aM (0<(H.filter (eh a)).length)||ch)) [] (m.st n)→aE 1 1362 [.l (an 3)] (m.st n) (.c (if oR a H ch then[ae 3] else[])) [] (m.st n)→
   iB n a s t O isL A H→eC n [] m→d6 m.tw→(cw a H<26→m.a+kc a H*(O.filter isL).length*cw a H+1≤20000)→(cw a H<26→m.N≤60000)→m.dp<58→G):G:=by
 have⟨E,M,B⟩:=h.row;have z:E.length≤50:=ao (a9 (B.len.trans s5)) (aD h.sa.small.1 rfl);have o:cw a H<26→kc a H*(O.filter isL).length*cw a H≤9352:=fun d=>Dd h.g (by decide) (H8 w d);have i:102*O.length≤918:=fh 102 h.i;refine Qv (R:=R) (c0:=102) (c:=kc a H) h.I h.sa.ok M B z h.fr h.sa.h3 h.t h.parts (aD h.i rfl) (aD y rfl) (fun j u=>y9 h.W (h.els u).1 (bv _)) (aD (b3 i) rfl) (fun f N j u=>h.cost f ((u4 h.mem).mp N) j u) (fun d=>by
  rw[qV h.mem] at d⊢;exact aD (dc (dd i (o d)) 2) rfl) fun m n r C Q=> ?_
 have D:=Q.iff;have v:=Q.no;have x:=Q.yes;have g:=Q.g.l;have F:=Q.g.j;rw[Db h.mem,←I,h.c] at D v x;rw[h.d] at v x;rw[qV h.mem] at g F;have L (d:cw a H<26):102*O.length+(kc a H*(O.filter isL).length*cw a H+2)≤10272:=dd i (dc (o d) 2);have p {l:List aK}:0<l.length↔l≠[]:=jf;refine q m n ?_ ?_ (h.mono Q.x Q.I (ao Q.z (aD (dc y _) rfl))) Q.g.ok Q.w (fun d=> ?_) (fun d=> ?_) (by rw[Q.g.dp];decide)
 ·have e:r=(aM (0<(H.filter (eh a)).length)||ch):=by rw[ji,D,dK,k0,p]
  exact e▸C
 ·have e:(if m.N=0 then[] else[ae 3])=if oR a H ch then[ae 3] else[]:=by
   have k:oR a H ch=af↔(¬(H.filter (eh a)).filter (mF a)≠[]∧(H.filter (eh a)≠[]∨ch=af∧a.c=0)):=by
    unfold oR;rw[fu,dK,fu,k0,Oy,p,dL]
   by_cases b:oR a H ch=af
   ·rw[aJ b,aL (x (k.mp b))]
   ·rw[aL b,aJ (v fun h=>b (k.mpr h))]
  exact e▸Hw Q.g.ok.N
 ·exact aD (b3 (dd (show m.a≤10272 from ao g (ao (a9 (jI _)) (L d))) (o d))) rfl
 ·exact ao F (ao (a9 (jI _)) (aD (L d) rfl))
end
section
variable{ns ms:List Int} {O:List Nat}
theorem Fy (d:2≤n) {DL:List aK} (S:fb a) (p:∀b∈DL,ij b):ca bw (aZ n) (ep 295 [18,0,1] 0 58 (DL.map bR) (ej ns ms c b a H X s t ch++[(27,.l (an 2)),(99,.l (.c (DL.map bR)))]) Y) (.h (.c ((DL.filter (mF a)).map bR))) (ej ns ms c b a H X s t ch++[(27,.l (an 2)),(99,.l (.c (DL.map bR)))]) Y:=by
 rw[←nI];refine fM [18,0,1] 0 58 bR DL _ _ Y fun x h=> ?_;have E:(wK.k a6 (bR x) (bR a)).e=ac (nN x a):=Jd S.ok (p x h).ok;have C:aE 2 286 [.l (bN a)] Y (bR a) [] Y:=s8 S.kk (aD S.small.1 rfl);have C:=C n d;unfold mF;rw[show aM (x.c=1)=(x.c==1) from rfl];clear S p h;cases k:(x.c==1) with
 |true=>exact cX 1 [.x (i:=x.c) (j:=1) k]
 |false=>
  cases e:nN x a with
  |true=>
   rw[e] at E;exact cX 1 [.x (i:=x.c) (j:=1) k,.call C,.z E]
  |false=>
   rw[e] at E;exact cX 1 [.x (i:=x.c) (j:=1) k,.call C,.z E]
theorem KU:ca bw (aZ n) (ep 295 [20] 0 59 (O.map ag) (ej ns ms c b a H X s t ch++[(27,.l (an 2))]) Y) (.h (.c (O.map ag))) (ej ns ms c b a H X s t ch++[(27,.l (an 2))]) Y:=by
 have C:=fM (n:=n) (g:=295) [20] 0 59 ag O (fun i=>[ag i]) (ej ns ms c b a H X s t ch++[(27,.l (an 2))]) Y fun x _=>by exact cX 0 []
 rw[←kd] at C;exact C
theorem Hj:ca bw (aZ n) (ep 295 [20] 0 59 (O.map ag) (ej ns ms c b a H X s t ch++[(27,.l (an 2)),(99,x),(38,y),(40,z)]) Y) (.h (.c (O.map ag))) (ej ns ms c b a H X s t ch++[(27,.l (an 2)),(99,x),(38,y),(40,z)]) Y:=by
 have C:=fM (n:=n) (g:=295) [20] 0 59 ag O (fun i=>[ag i]) (ej ns ms c b a H X s t ch++[(27,.l (an 2)),(99,x),(38,y),(40,z)]) Y fun x _=>by exact cX 0 []
 rw[←kd] at C;exact C
theorem Ik:ca bw (aZ n) (ep 295 [0] 0 59 (ms.map ae) [(96,.l (.c (ns.map ae)))] []) (.h (.c (ms.map ae))) [(96,.l (.c (ns.map ae)))] []:=by
 have c:=fM (n:=n) (g:=295) [0] 0 59 ae ms (fun i=>[ae i]) [(96,.l (.c (ns.map ae)))] [] fun x _=>by exact cX 0 []
 rw[←kd] at c;exact c
end
inductive NY (ms:List Int) (v:Nat):Bool→Prop
 |no:(v==7)=false→NY ms v false
 |yes:(v==7)=true→NY ms v (decide (12<ms.length))
inductive zt (n u:Nat) (ls:List Nat) (c4:b0) (R1:List aj):List Nat→b0→List aj→Prop
 |no:(u==0)=false→zt n u ls c4 R1 [] c4 R1
 |yes {w x:Nat} {c:b0} {R2:List aj}:(u==0)=true→aZ n 277 [.a c4,.l (ag 8)] [aF R1] (ag w) [c] [aF R1]→aZ n 292 [.l (.inst 0),.l (a5 [w])] [aF R1] (ag x) [] [aF R2]→zt n u ls c4 R1 [x] c R2
structure qz (n:Nat) (a:aK) (H DL L:List aK) (s t:Nat) (r:Bool) (o:List aj) (R4:List aj) (m:bh) (R5:List aj) (F:au):Prop where
 e:aZ n 286 [.l (bN a)] (fe.st R4) (bR a) [] (fe.st R4)
 c:aZ n 291 [.l (bR a),.l (.c (H.map bR))] (fe.st R4) (.c (DL.map bR)) [] (fe.st R4)
 i:(DL.map bR).length≤b4
 w:ca bw (aZ n) (ep 295 [18,0,1] 0 58 (DL.map bR) (F++[(27,.l (an 2)),(99,.l (.c (DL.map bR)))]) (fe.st R4)) (.h (.c (L.map bR))) (F++[(27,.l (an 2)),(99,.l (.c (DL.map bR)))]) (fe.st R4)
 g:aZ n 4921 [.l (an 2),.l (ag s),.l (ag t)] (fe.st R4) (aA r) [] (m.st R5)
 b:DL.length≤16777216
 f:L.length≤16777216
 d:aZ n 1362 [.l (an 3)] (m.st R5) (.c o) [] (m.st R5)
inductive ta (n:Nat) (a:aK) (H:List aK) (s t:Nat) (ch:Bool) (R4:List aj) (F:au):bh→List aj→au→Prop
 |no:decide ((co a H).length<13)=false→ta n a H s t ch R4 F fe R4 []
 |f {DL L:List aK} {m:bh} {R5:List aj}:decide ((co a H).length<13)=true→qz n a H DL L s t true [] R4 m R5 F→decide (0<DL.length)=true→(L.length==0)=false→ta n a H s t ch R4 F m R5 [(99,.l (.c (DL.map bR))),(38,.own (.c (L.map bR))),(40,.l (.bool false))]
 |d {DL L:List aK} {m:bh} {R5:List aj}:decide ((co a H).length<13)=true→qz n a H DL L s t true [.int 3] R4 m R5 F→decide (0<DL.length)=true→(L.length==0)=true→ta n a H s t ch R4 F m R5 [(99,.l (.c (DL.map bR))),(38,.own (.c (L.map bR))),(40,.l (.bool true))]
 |b {DL L:List aK} {m:bh} {R5:List aj}:ch=false→decide ((co a H).length<13)=true→qz n a H DL L s t false [] R4 m R5 F→decide (0<DL.length)=false→(L.length==0)=true→ta n a H s t ch R4 F m R5 [(99,.l (.c (DL.map bR))),(38,.own (.c (L.map bR))),(40,.l (.bool false))]
 |e {DL L:List aK} {m:bh} {R5:List aj}:ch=true→decide ((co a H).length<13)=true→qz n a H DL L s t true [.int 3] R4 m R5 F→decide (0<DL.length)=false→(L.length==0)=true→(a.c==0)=true→ta n a H s t ch R4 F m R5 [(99,.l (.c (DL.map bR))),(38,.own (.c (L.map bR))),(40,.l (.bool true))]
 |c {DL L:List aK} {m:bh} {R5:List aj}:ch=true→decide ((co a H).length<13)=true→qz n a H DL L s t true [] R4 m R5 F→decide (0<DL.length)=false→(L.length==0)=true→(a.c==0)=false→ta n a H s t ch R4 F m R5 [(99,.l (.c (DL.map bR))),(38,.own (.c (L.map bR))),(40,.l (.bool false))]
section
variable{ns ms:List Int} {c1 c2 c3 c4 c':b0} {b ch:Bool} {a:aK} {H:List aK} {ls us O:List Nat} {s t u v n:Nat} {R1 R2 R3 R4 R5 R6:List aj} {m m2:bh} {ex:au}
noncomputable def vd:i5:=(pU 295).getD ⟨[],[],[]⟩
noncomputable abbrev ly (k:Nat) (L:au) (Y:ar):aT:=(e6 bw 60).ss (vd.body.drop k) L Y dV
variable{Z:d1→Prop}
theorem z7 {q:i5} {A:List fJ} {t:aT} {d:aj} {cs:List b0} {Y:ar} {X:dS} (k:Nat) (s:List (cK X)) (h:wt q A (nK t (ln k s))=ac (lb s,d,ac cs,Y)):aQ X (sI q A d cs Y) t:=(yT h).elim fun f z=>sD k s z.1 z.2
theorem Ku (e:f9 ah (ac 40) (.c (ns.map ae))=ac (.c (ms.map ae))) (I:(ms.map ae).length≤b4) (l:ms.length≤16777216)
  (T:aZ n 277 [.a (qw 0 ms),.l (ag 8)] [] (ag v) [c1] []) (h:NY ms v b)
  (c:aZ n 280 [.a c1,.l (aA b)] [] (bN a) [c2] [])
  (d:aZ n 294 [.a c2,.l (bN a)] [] (.c (H.map bN)) [c3] [])
  (f:aZ n 3240 [.l (an 0)] [⟨156,[]⟩] a4 [] [aF dT])
  (z:aQ (dy bw (aZ n) 60) Z (ly 6 (kv ns ms c3 b a H) [aF dT])):aQ (dy bw (aZ n) 60) Z (ly 0 [(96,.l (.c (ns.map ae)))] []):=by
 have w:=Ik (n:=n) (ns:=ns) (ms:=ms);cases h with
 |no k=>exact jR 0 1048576 [.cut e,.le I,.sub w,.call T,.x (i:=v) (j:=7) k,.call c,.call d,.call f] (by kernel_rfl) z
 |yes k=>exact jR 0 1048576 [.cut e,.le I,.sub w,.call T,.x (i:=v) (j:=7) k,.p (ds:=ms.map ae) (aB _) l,.y (i:=ms.length) (j:=12) rfl,.call c,.call d,.call f] (by kernel_rfl) z
theorem Jv (I:(H.map bN).length≤b4)
  (W:ca bw (aZ n) (ep 295 [6] 0 59 (H.map bN) (kv ns ms c3 b a H) [aF dT]) (.h (.c (ls.map ag))) (kv ns ms c3 b a H) [aF R1])
  (l:(ls.map ag).length≤1000000)
  (c:aZ n 277 [.a c3,.l (ag 3)] [aF R1] (ag u) [c4] [aF R1]) (h:zt n u ls c4 R1 us c' R2)
  (d:aZ n 293 [.l (an 0),.l (bN a)] [aF R2] (ag s) [] [aF R3])
  (T:aZ n 171 [.l (an 0),.l (.c ((ls++us).map ag))] [aF R3] (ag t) [] [aF R4])
  (z:aQ (dy bw (aZ n) 60) Z (ly 10 (kQ ns ms c' b a H (ls++us) s t) [aF R4])):aQ (dy bw (aZ n) 60) Z (ly 6 (kv ns ms c3 b a H) [aF dT]):=by
 cases h with
 |no k=>rw[c8] at T z;exact jR 0 0 [.le I,.sub W,.call c,.x (i:=u) (j:=0) k,.call d,.call T] (by kernel_rfl) z
 | @yes w x _ _ k e f=>exact jR 0 0 [.le I,.sub W,.call c,.x (i:=u) (j:=0) k,.call e,.call f,.u (show fL 3 (.c (ls.map ag)) [ag x]=ac (a4,.c ((ls++[x]).map ag)) by rw[cm];exact kL l),.call d,.call T] (by kernel_rfl) z
theorem If (I:(H.map bN).length≤b4)
  (w:ca bw (aZ n) (ep 295 [10] 0 59 (H.map bN) (kQ ns ms c' b a H O s t) [aF R4]) (.h (.c (H.map bR))) (kQ ns ms c' b a H O s t) [aF R4])
  (T:aZ n 290 [.l (bN a),.l (.c (H.map bR))] [aF R4] (.c ((co a H).map (d0 a))) [] [aF R4])
  (l:(co a H).length≤16777216)
  (W:ca bw (aZ n) (dR 295 [13] ah ((co a H).map (d0 a)) (ej ns ms c' b a H O s t (aM (0<(co a H).length))) [aF R4]) a' (ej ns ms c' b a H O s t ch) [aF R4])
  (c:aZ n 6280 [.l (an 1),.l (an 0)] [aF R4,⟨232,[]⟩] a4 [] [aF R4,bF])
  (d:aZ n 4920 [.l (an 2),.l (an 1),.l (ae 1)] [aF R4,bF,⟨198,[]⟩] a4 [] [aF R4,bF,gU [],ek 0])
  (e:aZ n 274 [.l (an 2)] [aF R4,bF,gU [],ek 0] a4 [] [aF R4,bF,gU [(ae 4,an 4)],ek 0,⟨273,[]⟩])
  (f:aZ n 259 [.l (an 2)] [aF R4,bF,gU [(ae 4,an 4)],ek 0,⟨273,[]⟩] a4 [] [aF R4,bF,gU [(ae 4,an 4),(ae 12,an 5)],ek 0,⟨273,[]⟩,⟨257,[]⟩])
  (g:aZ n 258 [.l (an 2)] [aF R4,bF,gU [(ae 4,an 4),(ae 12,an 5)],ek 0,⟨273,[]⟩,⟨257,[]⟩] a4 [] (fe.st R4))
  (z:aQ (dy bw (aZ n) 60) Z (ly 18 (ej ns ms c' b a H O s t ch++[(27,.l (an 2))]) (fe.st R4))):aQ (dy bw (aZ n) 60) Z (ly 10 (kQ ns ms c' b a H O s t) [aF R4]):=
 jR 0 0 [.le I,.sub w,.call T,.p (ds:=(co a H).map (d0 a)) (aB _) l,.y (i:=(co a H).length) (j:=0) rfl,.sub W,.call c,.call d,.call e,.call f,.call g] (by kernel_rfl) z
theorem KG (l:(co a H).length≤16777216) (p:ta n a H s t ch R4 (ej ns ms c' b a H O s t ch) m R5 ex)
  (z:aQ (dy bw (aZ n) 60) Z (ly 19 (ej ns ms c' b a H O s t ch++(27,.l (an 2))::ex) (m.st R5))):aQ (dy bw (aZ n) 60) Z (ly 18 (ej ns ms c' b a H O s t ch++[(27,.l (an 2))]) (fe.st R4)):=by
 cases p with
 |no w=>exact jR 0 0 [.p (ds:=(co a H).map (d0 a)) (aB _) l,.A (i:=(co a H).length) (j:=13) w] (by kernel_rfl) z
 | @f L g _ _ w q k o=>exact jR 5 17729624997888 [.p (ds:=(co a H).map (d0 a)) (aB _) l,.A (i:=(co a H).length) (j:=13) w,.call q.e,.call q.c,.le q.i,.sub q.w,.call q.g,.p (ds:=L.map bR) (aB _) q.b,.y (i:=L.length) (j:=0) k,.p (ds:=g.map bR) (aB _) q.f,.x (i:=g.length) (j:=0) o,.call q.d] (by kernel_rfl) z
 | @d L g _ _ w q k o=>exact jR 6 4521329252368384 [.p (ds:=(co a H).map (d0 a)) (aB _) l,.A (i:=(co a H).length) (j:=13) w,.call q.e,.call q.c,.le q.i,.sub q.w,.call q.g,.p (ds:=L.map bR) (aB _) q.b,.y (i:=L.length) (j:=0) k,.p (ds:=g.map bR) (aB _) q.f,.x (i:=g.length) (j:=0) o,.p (ds:=L.map bR) (aB _) q.b,.y (i:=L.length) (j:=0) k,.call q.d] (by kernel_rfl) z
 | @b L g _ _ h w q k o=>subst h;exact jR 7 9024928879738880 [.p (ds:=(co a H).map (d0 a)) (aB _) l,.A (i:=(co a H).length) (j:=13) w,.call q.e,.call q.c,.le q.i,.sub q.w,.call q.g,.p (ds:=L.map bR) (aB _) q.b,.y (i:=L.length) (j:=0) k,.p (ds:=g.map bR) (aB _) q.f,.x (i:=g.length) (j:=0) o,.p (ds:=L.map bR) (aB _) q.b,.y (i:=L.length) (j:=0) k,.call q.d] (by kernel_rfl) z
 | @e L g _ _ h w q k o r=>subst h;exact jR 8 13528528507109376 [.p (ds:=(co a H).map (d0 a)) (aB _) l,.A (i:=(co a H).length) (j:=13) w,.call q.e,.call q.c,.le q.i,.sub q.w,.call q.g,.p (ds:=L.map bR) (aB _) q.b,.y (i:=L.length) (j:=0) k,.p (ds:=g.map bR) (aB _) q.f,.x (i:=g.length) (j:=0) o,.p (ds:=L.map bR) (aB _) q.b,.y (i:=L.length) (j:=0) k,.x (i:=a.c) (j:=0) r,.call q.d] (by kernel_rfl) z
 | @c L g _ _ h w q k o r=>subst h;exact jR 8 13528528507109376 [.p (ds:=(co a H).map (d0 a)) (aB _) l,.A (i:=(co a H).length) (j:=13) w,.call q.e,.call q.c,.le q.i,.sub q.w,.call q.g,.p (ds:=L.map bR) (aB _) q.b,.y (i:=L.length) (j:=0) k,.p (ds:=g.map bR) (aB _) q.f,.x (i:=g.length) (j:=0) o,.p (ds:=L.map bR) (aB _) q.b,.y (i:=L.length) (j:=0) k,.x (i:=a.c) (j:=0) r,.call q.d] (by kernel_rfl) z
theorem JR {F:au} (h:ta n a H s t ch R4 F m R5 ex):ex=[]∨∃x y z,ex=[(99,x),(38,y),(40,z)]:=by
 induction h using ta.casesOn with
 |no=>exact av rfl
 |_=>exact aI ⟨_,_,_,rfl⟩
theorem Ht (h:ex=[]∨∃x y z,ex=[(99,x),(38,y),(40,z)]) (T:aZ n 165 [.l (an 0),.l (ag t)] (({m with tel:=ai}:bh).st R5) (.j (O.map ag)) [] (({m with tel:=ai}:bh).st R5))
  (i:(O.map ag).length≤b4)
  (w:ca bw (aZ n) (ep 295 [20] 0 59 (O.map ag) (ej ns ms c' b a H us s t ch++(27,.l (an 2))::ex) (({m with tel:=ai}:bh).st R5)) (.h (.c (O.map ag))) (ej ns ms c' b a H us s t ch++(27,.l (an 2))::ex) (({m with tel:=ai}:bh).st R5))
  (r:fL 6 (.c (O.map ag)) []=ac (a4,.c (O.reverse.map ag)))
  (c:aZ n 256 [.l (an 2),.l (ag s),.l (.c (O.reverse.map ag))] (({m with tel:=ai}:bh).st R5) (aA ch) [] (m2.st R6))
  (E:(wK.k a6 (aA ch) (aA ch)).e=ac af):aQ (dy bw (aZ n) 60) (sI vd [.l (.c (ns.map ae))] (aA af) [] (m2.st R6)) (ly 19 (ej ns ms c' b a H us s t ch++(27,.l (an 2))::ex) (m.st R5)):=by
 rcases h with e|⟨x,y,z,e⟩<;>subst e
 ·exact z7 0 [.call T,.le i,.sub w,.u r,.call c,.z E] (by kernel_rfl)
 ·exact z7 0 [.call T,.le i,.sub w,.u r,.call c,.z E] (by kernel_rfl)
set_option maxHeartbeats 0 in
theorem Hv (e:f9 ah (ac 40) (.c (ns.map ae))=ac (.c (ms.map ae))) (I:(ms.map ae).length≤b4) (L:ms.length≤16777216)
  (T:aZ n 277 [.a (qw 0 ms),.l (ag 8)] [] (ag v) [c1] []) (c:NY ms v b)
  (d:aZ n 280 [.a c1,.l (aA b)] [] (bN a) [c2] [])
  (f:aZ n 294 [.a c2,.l (bN a)] [] (.c (H.map bN)) [c3] [])
  (g:aZ n 3240 [.l (an 0)] [⟨156,[]⟩] a4 [] [aF dT])
  (i:(H.map bN).length≤b4)
  (w:ca bw (aZ n) (ep 295 [6] 0 59 (H.map bN) (kv ns ms c3 b a H) [aF dT]) (.h (.c (ls.map ag))) (kv ns ms c3 b a H) [aF R1])
  (j:(ls.map ag).length≤1000000)
  (k:aZ n 277 [.a c3,.l (ag 3)] [aF R1] (ag u) [c4] [aF R1]) (o:zt n u ls c4 R1 us c' R2)
  (p:aZ n 293 [.l (an 0),.l (bN a)] [aF R2] (ag s) [] [aF R3])
  (q:aZ n 171 [.l (an 0),.l (.c ((ls++us).map ag))] [aF R3] (ag t) [] [aF R4])
  (W:ca bw (aZ n) (ep 295 [10] 0 59 (H.map bN) (kQ ns ms c' b a H (ls++us) s t) [aF R4]) (.h (.c (H.map bR))) (kQ ns ms c' b a H (ls++us) s t) [aF R4])
  (x:aZ n 290 [.l (bN a),.l (.c (H.map bR))] [aF R4] (.c ((co a H).map (d0 a))) [] [aF R4])
  (l:(co a H).length≤16777216)
  (y:ca bw (aZ n) (dR 295 [13] ah ((co a H).map (d0 a)) (ej ns ms c' b a H (ls++us) s t (aM (0<(co a H).length))) [aF R4]) a' (ej ns ms c' b a H (ls++us) s t ch) [aF R4])
  (z:aZ n 6280 [.l (an 1),.l (an 0)] [aF R4,⟨232,[]⟩] a4 [] [aF R4,bF])
  (A:aZ n 4920 [.l (an 2),.l (an 1),.l (ae 1)] [aF R4,bF,⟨198,[]⟩] a4 [] [aF R4,bF,gU [],ek 0])
  (B:aZ n 274 [.l (an 2)] [aF R4,bF,gU [],ek 0] a4 [] [aF R4,bF,gU [(ae 4,an 4)],ek 0,⟨273,[]⟩])
  (F:aZ n 259 [.l (an 2)] [aF R4,bF,gU [(ae 4,an 4)],ek 0,⟨273,[]⟩] a4 [] [aF R4,bF,gU [(ae 4,an 4),(ae 12,an 5)],ek 0,⟨273,[]⟩,⟨257,[]⟩])
  (G:aZ n 258 [.l (an 2)] [aF R4,bF,gU [(ae 4,an 4),(ae 12,an 5)],ek 0,⟨273,[]⟩,⟨257,[]⟩] a4 [] (fe.st R4))
  (h:ta n a H s t ch R4 (ej ns ms c' b a H (ls++us) s t ch) m R5 ex)
  (N:aZ n 165 [.l (an 0),.l (ag t)] (({m with tel:=ai}:bh).st R5) (.j (O.map ag)) [] (({m with tel:=ai}:bh).st R5))
  (P:(O.map ag).length≤b4)
  (Q:ca bw (aZ n) (ep 295 [20] 0 59 (O.map ag) (ej ns ms c' b a H (ls++us) s t ch++(27,.l (an 2))::ex) (({m with tel:=ai}:bh).st R5)) (.h (.c (O.map ag))) (ej ns ms c' b a H (ls++us) s t ch++(27,.l (an 2))::ex) (({m with tel:=ai}:bh).st R5))
  (r:fL 6 (.c (O.map ag)) []=ac (a4,.c (O.reverse.map ag)))
  (R:aZ n 256 [.l (an 2),.l (ag s),.l (.c (O.reverse.map ag))] (({m with tel:=ai}:bh).st R5) (aA ch) [] (m2.st R6))
  (E:(wK.k a6 (aA ch) (aA ch)).e=ac af):
  oO bw pU (n+1) 295 [.l (.c (ns.map ae))] [] (aA af) [] (m2.st R6):=
 ⟨vd,[(96,.l (.c (ns.map ae)))],by kernel_rfl,rfl,Ku e I L T c d f g (Jv i w j k o p q (If i W x l y z A B F G (KG l h (Ht (JR h) N P Q r R E))))⟩
end
section
theorem Mf (I:aW r) (f:r.length≤900000) (D:gz c) {G:Prop} (q:∀us C R,zt 59 u ls c r us C R→aW R→bL r R→R.length≤r.length+10→(us=[]∨∃i u,us=[i]∧cq R i u)→G):G:=by
 induction a:(u==0) with
 |false=>exact q [] c r (.no a) I .f (bu _ _) (av rfl)
 |true=>
  refine fC (n:=8) D (aY rfl) [aF r] fun w g t b d=> ?_;have k:e3 [w]:=⟨zG (px b),fun h=>aR (bW.mp h▸b) (gI 8)⟩;refine xA (J:=[]) I k f fun x R O T e X z p=>q [x] g R (.yes a (t 59 (aY rfl)) (T 59 (aY rfl))) e X z (aI (cN x w rfl (?_)));rcases p.c with⟨v,j,_,l⟩|⟨_,m⟩
  ·exact(List.cons.inj j).1▸l
  ·exact absurd (Nat.le_trans m (p.ids_le e)) (show¬2≤1 by decide)
end
section
theorem M9 (h:iB R a s t O isL A H) (B:R.length≤5000) (F:ch=af↔hw a H)
  {G:Prop} (q:∀(m:bh) i e,ta 59 a H s t ch R (ej ns ms c b a H X s t ch) m i e→iB i a s t O isL A H→eC i [] m→d6 m.tw→(cw a H<26→m.a+kc a H*(O.filter isL).length*cw a H+1≤20000)→(cw a H<26→m.N≤60000)→m.dp<58→(e=[]∨∃x y z,e=[(99,x),(38,y),(40,z)])→G):G:=by
 induction j:aM ((co a H).length<13) with
 |false=>
  exact q fe R [] (.no j) h fe.ok trivial (fun g=>(aD (dc (ci (Dd h.g (aY rfl) (iW g)) 0) 1) rfl)) (fun _=>cA _) (aY rfl) (av rfl)
 |true=>
  have d:(H.filter (eh a)).length≤8:=ao (hY _ _) h.pl;have l:((H.filter (eh a)).filter (mF a)).length≤8:=ao (hY _ _) d;have I:aE 2 286 [.l (bN a)] (fe.st R) (bR a) [] (fe.st R):=s8 h.sa.kk (aD h.sa.small.1 rfl);have M:=AS (Y:=fe.st R) h.sa.ok h.sa.d (aD h.sa.small.1 rfl) h.pok h.pl;have w:=Fy (n:=59) (ns:=ns) (ms:=ms) (c:=c) (b:=b) (H:=H) (X:=X) (s:=s) (t:=t) (ch:=ch) (Y:=fe.st R) (DL:=H.filter (eh a)) (aY rfl) h.sa fun x P=>h.pok x (c_.mp P).1;refine E7 h B (dB j) F fun m i U v S V T W N D=> ?_;unfold oR at v;have Z:=hY (mF a) (H.filter (eh a));generalize H.filter (eh a)=DL at*;generalize DL.filter (mF a)=L at*
  have Q (r:Bool) (o:List aj) (E:(aM (0<DL.length)||ch)=r) (α:(if((L.length==0)&&(aM (0<DL.length)||(ch&&(a.c==0))))=af then[ae 3] else[])=o):qz 59 a H DL L s t r o R m i (ej ns ms c b a H X s t ch):=
   ⟨I 59 (aY rfl),M 59 (aY rfl),by rw[aB];exact aD d rfl,w,E▸U 59 (aY rfl),aD d rfl,aD l rfl,α▸v 59 (aY rfl)⟩
  have f {e:au} (p:ta 59 a H s t ch R (ej ns ms c b a H X s t ch) m i e) (β:∃x y z,e=[(99,x),(38,y),(40,z)]):G:=q m i e p S V T W N D (aI β);induction k:aM (0<DL.length) with
  |true=>
   induction C:(L.length==0) with
   |false=>exact f (.f j (Q af [] (by rw[k];rfl) (by rw[C];rfl)) k C) ⟨_,_,_,rfl⟩
   |true=>exact f (.d j (Q af [ae 3] (by rw[k];rfl) (by rw[C,k];rfl)) k C) ⟨_,_,_,rfl⟩
  |false=>
   have C:=dL.mpr (rv.mp (ao Z (dC (rk k))));rcases Q' ch with g|g
   ·induction u:(a.c==0) with
    |true=>exact f (.e g j (Q af [ae 3] (by rw[k,g];rfl) (by rw[C,k,g,u];rfl)) k C u) ⟨_,_,_,rfl⟩
    |false=>exact f (.c g j (Q af [] (by rw[k,g];rfl) (by rw[C,k,g,u];rfl)) k C u) (zy _ _ _ rfl)
   ·exact f (.b g j (Q ai [] (by rw[k,g];rfl) (by refine ak C (ak k (ak g ?_));rfl)) k C) (zy _ _ _ rfl)
end
theorem P_ {ns:List Int} (a₈:ns.length≤63):∃st',aZ 60 295 [.l (.c (ns.map ae))] [] (aA af) [] st':=by
 have Q:f9 ah (ac 40) (.c (ns.map ae))=ac (.c ((ns.take 40).map ae)):=(vm).trans (by rw[rp]);have A:(ns.take 40).length≤40:=List.length_take_le _ _;generalize ns.take 40=ms at Q A;have I:(ms.map ae).length≤b4:=by rw[aB];exact aD A rfl
 refine fC (n:=8) (cN 0 ms A rfl) (aY rfl) [] fun v η T _ D=> ?_;have⟨b,θ⟩:∃b,NY ms v b:=by
  induction k:(v==7) with
  |false=>exact⟨_,.no k⟩
  |true=>exact⟨_,.yes k⟩
 have ι:vJ η [] b:=by
  exact b.rec (Aj D []) (K4 D [])
 refine ι fun a a₉ κ f W d=>J9 d f [] fun H μ ν V p P ξ=>OP (ns:=ns) (ms:=ms) (c:=μ) (b:=b) (a:=a) p P fun ls r B w=>fC (n:=3) ξ (aY rfl) [aF r] fun u b₀ ο _ π=> ?_;have L:=B.l.len▸p;have α:=ao B.z (ci (fh 60 p) 16);refine Mf (u:=u) (ls:=ls) B.I (aD α rfl) π fun F C b₁ ρ σ τ Z υ=> ?_;have Z:=ao Z (dc α 10);refine Bm (J:=[]) σ f.b (aD Z rfl) fun s φ χ M=> ?_;have β:=ao M.z (dc Z 60);have G:=B.l.mono (τ.trans M.x);have γ:F=[]∨∃i u,F=[i]∧cq φ i u:=υ.imp id fun z=>bK z fun i u g q=>cN i u g (q.mono M.x);refine FM (J:=[]) M.I (fun j ψ=>ay (G.to j ψ) fun b _ h=>⟨b,h⟩) (fun e=>aR V (by rw[←G.len,show ls=[] from e];exact gI 0)) γ (aD L rfl) (aD β rfl) fun t R O ω U=> ?_;have δ:=ao U.z (b3 β);have S:=KH f W (ay (M.row (ft f.d (bu _ _))) fun E g q=>bd E (U.x.at g) (q.mono U.x)) (G.mono U.x) V p P (γ.imp id fun z=>bK z fun i u g q=>cN i u g (q.mono U.x)) U (aD δ rfl);refine IJ (ns:=ns) (ms:=ms) (c:=C) (b:=b) (X:=ls++F) (s:=s) (t:=t) (Y:=[aF R]) f p P fun a₀ ε a₁=>M9 (ns:=ns) (ms:=ms) (c:=C) (b:=b) (X:=ls++F) S (aD δ rfl) ε fun m b₂ b₃ a₂ ζ o a₃ a₄ N a₅ a₆=> ?_;refine Po ζ o a₃ a₄ N a₅ ε fun b₄ b₅ a₇=>⟨_,Hv Q I (aD A rfl) (T 59 (aY rfl)) θ (κ 59 (aY rfl)) (ν 59 (aY rfl)) (FQ 59 (aY rfl)) (by rw[aB];exact aD p rfl) (w 59 (aY rfl)) (by rw[aB];exact aD L rfl) (ο 59 (aY rfl)) ρ (χ 59 (aY rfl)) (ω 59 (aY rfl)) (Ie (aY rfl) P) ((F9 (Y:=[aF R]) f P p) 59 (aY rfl)) (aD L9 rfl) (a₁ 59 (aY rfl)) (IM 59 (aY rfl)) (HZ 59 (aY rfl)) (Ib 59 (aY rfl)) (JZ 59 (aY rfl)) (Gw 59 (aY rfl)) a₂ (jx ζ.pt 59 (aY rfl)) (by rw[aB];exact aD S.i rfl) ?_ (aS (fun l=>ac (a4,b0.c l)) (R7 ..).symm) (a₇ 59 (aY rfl)) (by induction a₀<;>rfl)⟩;rcases a₆ with e|⟨x,y,z,e⟩<;>refine ak e ?_
 ·exact KU
 ·exact Hj
open PySem.Calls PyProof.Rows PySem.Spec PySem.W
structure S5 where
 a:List PySem.Expr:=[]
 b:Nat:=0
 sc:Scope:=⟨k4,[],ai,ai,[]⟩
 c:Option (br×Pos):=ah
 un:Bool:=ai
noncomputable def fE:c6→S5
 |.Name x p=>{c:=ac (x,p)}
 |.Constant _ k _=>{b:=k}
 |.BoolOp _ V _=>{a:=V}
 |.BinOp l _ r _=>{a:=[l,r]}
 |.UnaryOp _ x _=>{a:=[x],un:=af}
 |.IfExp t B e _=>{a:=[t,B,e]}
 |.ListComp e [⟨t,I,d,_⟩] s _=>{a:=e::t::I::d,sc:=s}
 |.Compare l _ R _=>{a:=l::R}
 |.Call f A _ _=>{a:=f::A}
 |.Attribute v _ _=>{a:=[v]}
 |.Subscript v i _=>{a:=[v,i]}
 |.List E _=>{a:=E}
 |.Tuple E k _=>{a:=E,b:=k}
 |.Slice L h _ _=>{a:=[L.getD fy,h.getD fy]}
 |_=>{}
noncomputable def eu (e:c6):List PySem.Expr:=(fE e).a
noncomputable def bA (n:Nat) (e:c6):PySem.Expr:=(eu e)[n]?.getD fy
noncomputable def l3 (e:c6):Nat:=(fE e).b
noncomputable def mG (e:c6):Scope:=(fE e).sc
noncomputable def cc (x:Nat):Str:=(fW[x]?).getD (gp "")
noncomputable def cW (x:Nat):Str:=(iE[x]?).getD (gp "")
noncomputable def d_ (g:Nat):Str:=((j0.find? fun p=>p.2==g).map (·.1)).getD (gp "")
noncomputable def gZ (d:aj) (e:c6):PySem.Expr:=match(fE e).c with
 |some q=>ey q.1 q.2
 |none=>match d with
  |.none=>pJ .none (l3 e) e.pos
  |.bool b=>pJ (.bool b) (l3 e) e.pos
  |.int i=>match(fE e).un with
   |true=>yD .USub (pJ (.int (-i)) (l3 (bA 0 e)) (bA 0 e).pos) e.pos
   |false=>pJ (.int i) (l3 e) e.pos
  |.str s=>pJ (.str s) (l3 e) e.pos
  |_=>pJ .ellipsis 0 e.pos
noncomputable def p9:List Nat→List c6→List c6
 |[],_=>[]
 |x::r,e=>ey (cc x) (e.headD fy).pos::p9 r e.tail
noncomputable def mi:e4→c6→c6
 |.a x,e=>ey (cc x) e.pos
 |.b X,e=>ol (p9 X (eu e)) (l3 e) e.pos
mutual
noncomputable def bz:bt→c6→c6
 |.v,e=>e
 |.h d,e=>gZ d e
 |.f x,e=>ey (cc x) e.pos
 |.w f a b,e=>.BinOp (bz a (bA 0 e)) f (bz b (bA 1 e)) e.pos
 |.q a,e=>yD .Not (bz a (bA 0 e)) e.pos
 |.k f a b,e=>rz (bz a (bA 0 e)) [f] [bz b (bA 1 e)] e.pos
 |.s o p a b c,e=>rz (bz a (bA 0 e)) [o,p] [bz b (bA 1 e),bz c (bA 2 e)] e.pos
 |.and E,e=>.BoolOp .And (dJ E (eu e)) e.pos
 |.or E,e=>.BoolOp .Or (dJ E (eu e)) e.pos
 |.l c a b,e=>.IfExp (bz c (bA 0 e)) (bz a (bA 1 e)) (bz b (bA 2 e)) e.pos
 |.j E,e=>ol (dJ E (eu e)) (l3 e) e.pos
 |.list E,e=>pR (dJ E (eu e)) e.pos
 |.y,e=>uF [] [] e.pos
 |.sub a i,e=>pH (bz a (bA 0 e)) (bz i (bA 1 e)) e.pos
 |.n a l h,e=>pH (bz a (bA 0 e)) (.Slice (th l (bA 0 (bA 1 e))) (th h (bA 1 (bA 1 e))) ah (bA 1 e).pos) e.pos
 |.attr a x,e=>iu (bz a (bA 0 e)) (cW x) e.pos
 |.call g E,e=>i1 (ey (d_ g) (bA 0 e).pos) (dJ E (eu e).tail) [] e.pos
 |.u a m E,e=>i1 (iu (bz a (bA 0 (bA 0 e))) (cW m) (bA 0 e).pos) (dJ E (eu e).tail) [] e.pos
 |.comp j t I s,e=>pI (bz j (bA 0 e)) [⟨mi t (bA 1 e),bz I (bA 2 e),dJ s ((eu e).drop 3),0⟩] (mG e) e.pos
noncomputable def dJ:List bt→List c6→List c6
 |[],_=>[]
 |m::r,E=>bz m (E.headD fy)::dJ r E.tail
noncomputable def th:Option bt→c6→Option c6
 |.none,_=>ah
 |some m,e=>ac (bz m e)
end
noncomputable def xo:di→c6×c6×List di×List di
 |.Expr e _=>(fy,e,[],[])
 |.Return e _=>(fy,e.getD fy,[],[])
 |.Assign T e _=>(T.headD fy,e,[],[])
 |.AugAssign t _ e _=>(t,e,[],[])
 |.For t e b o _=>(t,e,b,o)
 |.While e b o _=>(fy,e,b,o)
 |.If e a b _=>(fy,e,a,b)
 |.Delete T _=>(T.headD fy,fy,[],[])
 |_=>(fy,fy,[],[])
noncomputable def dz (s:di):PySem.Expr:=(xo s).1
noncomputable def cL (s:di):PySem.Expr:=(xo s).2.1
noncomputable def mH (s:di):List di×List PySem.Stmt:=(xo s).2.2
mutual
noncomputable def Kn:eo→di→di
 |.v,s=>s
 |.d m,s=>.Expr (bz m (cL s)) s.pos
 |.h m,s=>.Return (ac (bz m (cL s))) s.pos
 |.set x m,s=>iZ [ey (cc x) (dz s).pos] (bz m (cL s)) s.pos
 |.j x e,s=>iZ [ey (cc x) (dz s).pos] (pR (dJ e (eu (cL s))) (cL s).pos) s.pos
 |.p x,s=>iZ [ey (cc x) (dz s).pos] (uF [] [] (cL s).pos) s.pos
 |.g x a t I d,s=>iZ [ey (cc x) (dz s).pos] (bz (dY a t I d) (cL s)) s.pos
 |.w x a,s=>iZ [ey (cc x) (dz s).pos] (bz (ap 18 [a]) (cL s)) s.pos
 |.names X m,s=>iZ [ol (p9 X (eu (dz s))) (l3 (dz s)) (dz s).pos] (bz m (cL s)) s.pos
 |.attr a x m,s=>iZ [bz (aX a x) (dz s)] (bz m (cL s)) s.pos
 |.k a x e,s=>iZ [bz (aX a x) (dz s)] (pR (dJ e (eu (cL s))) (cL s).pos) s.pos
 |.n a x,s=>iZ [bz (aX a x) (dz s)] (uF [] [] (cL s).pos) s.pos
 |.sub a i m,s=>iZ [bz (az a i) (dz s)] (bz m (cL s)) s.pos
 |.B x o m,s=>um (ey (cc x) (dz s).pos) o (bz m (cL s)) s.pos
 |.q a x o m,s=>um (bz (aX a x) (dz s)) o (bz m (cL s)) s.pos
 |.f t I b,s=>.For (mi t (dz s)) (bz I (cL s)) (BF b (mH s).1) [] s.pos
 |.m c b,s=>.While (bz c (cL s)) (BF b (mH s).1) [] s.pos
 |.l c a b,s=>.If (bz c (cL s)) (BF a (mH s).1) (BF b (mH s).2) s.pos
 |.del a i,s=>yE [bz (az a i) (dz s)] s.pos
 |.u a l,s=>yE [bz (.n a (ac l) ah) (dz s)] s.pos
 |.y,s=>uE s.pos
 |.o,s=>.Break s.pos
 |.cont,s=>.Continue s.pos
noncomputable def BF:List eo→List di→List di
 |[],_=>[]
 |m::r,S=>Kn m (S.headD (uE ⟨0,0,0,0⟩))::BF r S.tail
end
inductive fl where
 |d (d:aj) (o:Obj)
 |a (o:Obj)
 |inst (k:Nat)
 |box (k x:Nat)
 |dict (k:Nat)
 |ns
 |cell
 |slot (l:Bool) (x:Nat)
open fl renaming box→cJ,cell→gP,dict→g8,inst→ga,ns→eH,slot→bQ
noncomputable def fl.ctorIdx (d:fl):Nat:=d.casesOn (fun _ _=>0) (fun _=>1) (fun _=>2) (fun _ _=>3) (fun _=>4) 5 6 fun _ _=>7
abbrev bM:=bp→Option fl
inductive xw where
 |loc (a:Addr)
 |cell (a:Addr)
open xw renaming cell→gQ,loc→hG
inductive dM {α β:Type} (R:α→β→Prop):List α→List β→Prop
 |nil:dM R [] []
 |cons {a:α} {b:β} {A:List α} {B:List β}:R a b→dM R A B→dM R (a::A) (b::B)
open dM renaming cons→cy,nil→cI
section
variable{S:α→β→Prop}
theorem dM.mono (i:∀a b,R a b→S a b) (h:dM R A B):dM S A B:=by
 exact h.rec cI fun a _ r=>cy (i _ _ a) r
theorem dM.len (h:dM R a b):b.length=a.length:=by
 exact h.rec rfl fun _ _ r=>aS (·+1) r
theorem dM.app (y:dM R cs ds) (h:dM R A b):dM R (A++cs) (b++ds):=by
 exact h.rec y fun a _ r=>cy a r
theorem dM.get (h:dM R A B):∀{k:Nat} {a:α},A[k]? =ac a→∃b,B[k]? =ac b∧R a b:=by
 induction h with
 |nil=>intro k a e;injection e
 |cons x _ r=>
  intro k a e;induction k using ir with
  |zero=>exact⟨_,rfl,bD e▸x⟩
  |succ k=>exact r e
theorem dM.take (h:dM R A b):∀n:Nat,dM R (A.take n) (b.take n):=by
 induction h with
 |nil=>intro n;induction n<;>exact cI
 |cons a _ r=>intro n;induction n using ir with
  |zero=>exact cI
  |succ n=>exact cy a (r n)
theorem dM.drop (h:dM R A b):∀n:Nat,dM R (A.drop n) (b.drop n):=by
 induction h with
 |nil=>intro n;induction n<;>exact cI
 |cons a x r=>intro n;induction n using ir with
  |zero=>exact cy a x
  |succ n=>exact r n
theorem dM.c (h:dM R A b):dM R A.reverse b.reverse:=by
 induction h with
 |nil=>exact cI
 |cons a _ r=>exact ak DX (ak DX ((cy a cI).app r))
theorem dM.set (y:R a b) (h:dM R A B):∀k:Nat,dM R (A.set k a) (B.set k b):=by
 induction h with
 |nil=>intro;exact cI
 |cons a x r=>intro k;induction k using ir with
  |zero=>exact cy y x
  |succ k=>exact cy a (r k)
theorem dM.rep (x:dM R a b) (n:Nat):dM R (cx n a).flatten (cx n b).flatten:=by
 exact n.rec cI fun n r=>r.app x
end
def hg (G:bM) (d:aj) (v:aV):Prop:=∃a o,v=am a∧G a=ac (.d d o)
def a8 (G:bM) (d:aj) (v:aV):Prop:=match d with
 |.none=>v=dj
 |.bool b=>v=cC b
 |.int i=>∃t,v=aq i t
 |.str x=>∃t,v=ba x t
 |.inst k=>∃a,v=am a∧G a=ac (ga k)
 |.box k x=>jn k x=af∧∃a,v=am a∧G a=ac (cJ k x)
 |d=>hg G d v
noncomputable abbrev dw (G:bM):=dM (a8 G)
def i8 (b:Bool) (t:fl):Prop:=match t with
 |.slot l _=>l=af
 |.box k x=>b=af∨jn k x=af
 |_=>True
def bT (b:Bool) (G g:bM):Prop:=∀a t,i8 b t→G a=ac t→g a=ac t
def pg (G g:bM):Prop:=∀a l x,g a=ac (bQ l x)→G a=ac (bQ l x)
theorem bT.f:bT b G G:=fun _ _ _ h=>h
theorem zE (h:i8 (b&&c) t):i8 b t∧i8 c t:=match t,h with
 |.slot _ _,h=>⟨h,h⟩
 |.box _ _,h=>h.elim (fun e=>(bS.mp e).imp av av) fun e=>⟨aI e,aI e⟩
 |.d _ _,_|.a _,_|.inst _,_|.dict _,_|.ns,_|.cell,_=>⟨trivial,trivial⟩
theorem NK (h:i8 ai t):i8 b t:=match t,h with
 |.slot _ _,h=>h
 |.box _ _,h=>h.elim (fun e=>(by injection e)) aI
 |.d _ _,_|.a _,_|.inst _,_|.dict _,_|.ns,_|.cell,_=>trivial
theorem bT.trans (x:bT b G g) (y:bT c g d):bT (b&&c) G d:=fun a t u h=>y a t (zE u).2 (x a t (zE u).1 h)
theorem bT.low (x:bT b G g):bT ai G g:=fun a t u h=>x a t (NK u) h
theorem bT.tr (x:bT b G g) (y:bT c g a):bT ai G a:=x.low.trans y.low
def Cs (t:fl):Prop:=match t with
 |.a _=>False
 |.slot l _=>l=af
 |.box k x=>jn k x=af
 |_=>True
def pe (G g:bM):Prop:=∀a t,Cs t→G a=ac t→g a=ac t
def At (t:fl):Prop:=match t with
 |.d _ _|.inst _|.dict _=>True
 |.box k x=>jn k x=af
 |_=>False
def iU (G g:bM):Prop:=∀a t,At t→G a=ac t→g a=ac t
theorem QA (u:Cs t):i8 b t:=by
 induction t with
 |a o=>exact u.elim
 |box k x=>exact aI u
 |slot l x=>exact u
 |_=>exact trivial
theorem bT.ls (l:bT b G g):pe G g:=fun a t u=>l a t (QA u)
theorem pe.w (l:pe G g):iU G g:=fun A t u=>l A t (by
 induction t with
 |a o=>exact u.elim
 |slot l x=>exact u.elim
 |box k x=>exact u
 |_=>exact trivial)
theorem bT.ld (l:bT b G g):iU G g:=l.ls.w
section
theorem hg.mono (l:iU G g) (h:hg G d v):hg g d v:=bK h fun a o e t=>cN a o e (l a _ trivial t)
theorem a8.mono (l:iU G g) (h:a8 G d v):a8 g d v:=match d,h with
 |.none,h|.bool _,h|.int _,h|.str _,h=>h
 |.inst _,⟨a,e,t⟩=>⟨a,e,l a _ trivial t⟩
 |.box _ _,⟨n,a,e,t⟩=>⟨n,a,e,l a _ n t⟩
 |.j _,h|.c _,h|.e _,h=>hg.mono l h
theorem dw.mono (l:iU G g) (h:dw G ds vs):dw g ds vs:=dM.mono (fun _ _=>a8.mono l) h
end
noncomputable def j1 (f:Bool) (vs:List aV) (n:Nat):Obj:={cls:=bn (cond f "tuple" "list"),data:=op vs.toArray n}
noncomputable abbrev la:=j1 af
noncomputable abbrev d5:=j1 ai
noncomputable def kH (f:Bool) (ds:List aj):aj:=cond f (.j ds) (.c ds)
theorem mU {P:Nat→aj→Prop} (a:∀n,P n a4) (b:∀n i,P n (ae i)) (s:∀n (x:br),x.cps.all (·<0x110000)=af→P n (bP x))
  (t:∀n ds,(∀e∈ds,aj.plain n e=af∧P n e)→P (n+1) (.j ds)) (l:∀n ds,(∀e∈ds,aj.plain n e=af∧P n e)→P (n+1) (.c ds)):∀n d,aj.plain n d=af→P n d:=by
 intro n;induction n with
 |zero=>intro d h;induction d using aj.casesOn<;>first|exact absurd h Bool.false_ne_true|exact a 0|exact b 0 _|exact s 0 _ h
 |succ n I=>
  have k:∀{ds:List aj},ds.all (aj.plain n)=af→∀e∈ds,aj.plain n e=af∧P n e:=fun h e c=>have p:=cH.mp h e c;⟨p,I e p⟩;intro d h;induction d using aj.casesOn<;>first|exact absurd h Bool.false_ne_true|exact a _|exact b _ _|exact s _ _ h|exact t n _ (k h)|exact l n _ (k h)
theorem nR {P:Nat→aj→Prop} (a:∀n i,P n (ae i)) (s:∀n (x:br),x.cps.all (·<0x110000)=af→P n (bP x))
  (t:∀n ds,(∀e∈ds,aj.key n e=af∧P n e)→P (n+1) (.j ds)):∀n d,aj.key n d=af→P n d:=by
 intro n;induction n with
 |zero=>intro d h;induction d using aj.casesOn<;>first|exact absurd h Bool.false_ne_true|exact a 0 _|exact s 0 _ h
 |succ n I=>
  intro d h;induction d using aj.casesOn<;>first|exact absurd h Bool.false_ne_true|exact a _ _|exact s _ _ h|exact t n _ (fun e b=>have p:=List.all_eq_true.mp h e b;⟨p,I e p⟩)
theorem Cr:∀n d,aj.key n d=af→aj.plain n d=true:=nR (fun n _=>by induction n<;>rfl) (fun n _ h=>by induction n<;>exact h) fun n D h=>cH.mpr fun e a=>(h e a).2
mutual
noncomputable def il:aj→PyData
 |.int i=>.int i
 |.str x=>.str x
 |.j D=>.tuple (nO D)
 |.c D=>.list (nO D)
 |_=>.none
noncomputable def nO:List aj→List PyData
 |[]=>[]
 |d::r=>il d::nO r
end
def mR (h:fT) (G:bM):Prop:=∀f a d o,G a=ac (.d (kH f d) o)→h.get? a=ac o∧∃v n,o=j1 f v n∧dw G d v
section
theorem xk (r:dw G ds vs):(∀e∈ds,aj.plain n e=af∧∀v,a8 G e v→∃A,Reads h v (il e) A)→∃A,ReadsAll h vs (nO ds) A:=by
 exact r.rec (fun _=>⟨_,.nil⟩) fun a _ i=>fun q=>(((q _ (cU _)).2 _ a).elim fun A x=>(i fun e c=>q e (e9 _ c)).elim fun b y=>⟨_,.cons x y⟩)
theorem o5 (K:mR h G):∀n d,aj.plain n d=af→∀v,a8 G d v→∃A,Reads h v (il d) A:=
 mU (fun _ v e=>by cases(e);exact⟨_,.none⟩) (fun _ i v z=>z.elim fun t e=>e▸⟨_,.int i t⟩) (fun _ x _ v z=>z.elim fun t e=>e▸⟨_,.str x t⟩)
  (fun n D q v z=>bK z fun a o e t=>(K af a D o t).elim fun b z=>z.elim fun V Z=>Z.elim fun m c=>c.elim fun E r=>(xk r q).elim fun A x=>by subst e E;exact⟨_,reads_tuple_at b rfl rfl x⟩)
  (fun n D q v z=>bK z fun a o e t=>(K ai a D o t).elim fun b z=>z.elim fun V Z=>Z.elim fun m c=>c.elim fun E r=>(xk r q).elim fun A x=>by subst e E;exact⟨_,reads_list_at b rfl rfl x⟩)
end
theorem wj:∀{ds:List aj},(∀e∈ds,aj.plain n e=af∧(il e).canLay0=af∧(il e).depth≤n)→PyData.canLayAll0 (nO ds)=af∧RO (nO ds)≤n:=by
 intro ds;induction ds with
 |nil=>
  exact fun _=>⟨rfl,cA _⟩
 |cons d r i=>
  exact fun q=>dQ (q d (cU _)) fun _ a b=>(i fun e h=>q e (e9 _ h)).elim fun c e=>⟨bS.mpr ⟨a,c⟩,yq.mpr ⟨b,e⟩⟩
theorem o8:∀n d,aj.plain n d=af→(il d).canLay0=af∧(il d).depth≤n:=
 mU (fun _=>⟨rfl,cA _⟩) (fun _ _=>⟨rfl,cA _⟩) (fun _ _ h=>⟨h,cA _⟩)
  (fun n D q=>(wj q).elim fun a b=>⟨a,b3 b⟩) (fun n D q=>(wj q).elim fun a b=>⟨a,b3 b⟩)
theorem AC:∀{E:List aj},(∀d∈ds,aj.plain n d=af∧∀k e,aj.plain k e=af→ym (il d) (il e)=aj.beq d e)→(∀e∈E,aj.plain k e=af)→PyData.eqvAll (nO ds) (nO E)=hX ds E:=by
 induction ds with
 |nil=>intro E;induction E using cn<;>exact fun _ _=>rfl
 |cons d r i=>
  intro E;induction E using cn with
  |nil=>exact fun _ _=>rfl
  |cons e t=>
   refine fun q p=>(?_:(_&&_)=(_&&_));rw[(q d (cU _)).2 k e (p e (cU _)),i (fun x h=>q x (e9 _ h)) fun x h=>p x (e9 _ h)]
theorem uX:∀n d,aj.plain n d=af→∀k e,aj.plain k e=af→ym (il d) (il e)=aj.beq d e:=
 mU (fun _=>mU (fun _=>rfl) (fun _ _=>rfl) (fun _ _ _=>rfl) (fun _ _ _=>rfl) fun _ _ _=>rfl)
  (fun _ _=>mU (fun _=>rfl) (fun _ _=>rfl) (fun _ _ _=>rfl) (fun _ _ _=>rfl) fun _ _ _=>rfl)
  (fun _ _ _=>mU (fun _=>rfl) (fun _ _=>rfl) (fun _ _ _=>rfl) (fun _ _ _=>rfl) fun _ _ _=>rfl)
  (fun _ _ q=>mU (fun _=>rfl) (fun _ _=>rfl) (fun _ _ _=>rfl) (fun k E p=>AC q fun e h=>(p e h).1) fun _ _ _=>rfl)
  (fun _ _ q=>mU (fun _=>rfl) (fun _ _=>rfl) (fun _ _ _=>rfl) (fun _ _ _=>rfl) fun k E p=>AC q fun e h=>(p e h).1)
theorem LX (h:aj.plain 8 d=af):ds.all (aj.plain 8)=af→((nO ds).any fun y=>ym y (il d))=ds.any fun x=>aj.beq x d:=by
 induction ds with
 |nil=>exact fun _=>rfl
 |cons e r i=>
  refine fun p=>(bS.mp p).elim fun a b=>(?_:(ym (il e) (il d)||_)=(aj.beq e d||_));rw[uX 8 e a 8 d h,i b]
mutual
noncomputable def qk (w:bZ):aj→Int
 |.int i=>hashInt i
 |.str x=>hashStr w x
 |.j D=>yy (tR (ox w D))
 |_=>0
noncomputable def ox (w:bZ):List aj→List Int
 |[]=>[]
 |d::r=>qk w d::ox w r
end
mutual
noncomputable def pW:aj→Nat
 |.j D=>q7 D+1
 |_=>1
noncomputable def q7:List aj→Nat
 |[]=>0
 |d::r=>pW d+q7 r
end
theorem Lw (e:aj):∀a:List aj,q7 (a++[e])=q7 a+pW e:=by
 exact fun a=>a.rec (f_ ..) fun d a i=>(aS (pW d+·) (i)).trans (ev ..).symm
theorem EX (w:bZ) (e:aj):∀a:List aj,ox w (a++[e])=ox w a++[qk w e]:=by
 exact fun a=>a.rec rfl fun d a i=>aS (qk w d::·) (i)
theorem Ch (h:dM R s (b::B)):∃a A,s=a::A∧R a b∧dM R A B:=by
 cases h with|cons a r=>exact⟨_,_,rfl,a,r⟩
theorem P4 (h:dM R a []):a=[]:=fs.mp h.len.symm
section
def CY (w:bZ) (G:bM) (ds:List aj) (s:ct) (J:List aV) (b:Array Int) (S:ct):Prop:=∃d l,ds=d++l∧dw G l J∧b.toList=ox w d∧S={s with toks:=s.toks+q7 d}
theorem Qf:∀n d,aj.key n d=af→∀{A:pO} {E:aV→ct→Prop} {s:ct} {v:aV} {Q:Int→ct→Prop},mR s.heap G→a8 G d v→A.units+n<pQ→Q (qk w d) {s with toks:=s.toks+pW d}→aH (aN aC w) A (pyHash v) Q E s:=by
 refine nR (fun _ i A E s v Q _ ⟨t,e⟩ _ h=>e▸wpAny_pyHash_int h) (fun _ x _ A E s v Q _ ⟨t,e⟩ _ h=>e▸wpAny_pyHash_str h) (fun n c I A E s v Q k z u h=>bK z fun a o e t=>(k af a c o t).elim fun g z=>bK z fun V m C r=> ?_);subst e C;have T:s.TypeIs (am a) "tuple":=bd _ g rfl;first|unfold pyHashByItsType|skip
 first|refine wpAny_bind (wpAny_cRoomFor_or (.inr (Nat.lt_of_le_of_lt (Nat.le_add_right ..) u)) ?_)|skip
 refine wpAny_bind (wpAny_specialOf T F.slot_tuple_hash.lookup ?_);refine ak (if_neg (by rw[beq_builtin_none];exact Bool.false_ne_true)) ?_;refine wpAny_bind (wpAny_specialOf T F.slot_tuple_hash.lookup (wpAny_bind (wpAny_callSpecialIfBoundUnlessNone?_slot T F.slot_tuple_hash (wpAny_call_entry F.slot_tuple_hash T F.entry_tuple_hash ?_ (F.args_tuple_hash_1 _)))));refine(?_:wpAny _ _ (Builtin.Tuple.tupleItemsOf (.ref a)>>=_) _ _ s);refine wpAny_bind (wpAny_tupleItemsOf g rfl (wpAny_bind ?_));refine ak (Eq.symm Array.forIn_toList) (wpAny_forIn_list _ (CY w G c s) _ ?_ ?_ _ _ ⟨[],c,rfl,r,rfl,rfl⟩)
 ·refine fun x J b S z=>ii z fun D M y l f j=>cF (Ch l) fun e L p N P=> ?_;subst y j p;have q:CY w G (D++e::L) s J (b.push (qk w e)) {s with toks:=s.toks+q7 D+pW e}:=⟨D++[e],L,rj ..,P,by rw[Array.toList_push,f,EX],by rw[Lw,←ev]⟩;refine aG ((I e (eD _ (cU _))).2 k N (by rw[ev,f_ 1];exact u) ?_);first|exact wpAny_pure q|exact wpAny_bind (wpAny_pure (wpAny_pure q))
 ·refine fun b S z=>ii z fun D M y l f j=> ?_;have p:=P4 l;subst y j p;rw[c8] at h;refine((ak f ?_):aH _ _ (retInt (tR b.toList)) _ _ _);refine SU ?_;change Q (yy (tR (ox w D))) {s with toks:=s.toks+(q7 D+1)} at h;unfold yy at h;refine(?_:aH _ _ (if(aM (-(2:Int)^63≤tR (ox w D))&&aM (tR (ox w D)<2^63))=af then _ else _) Q E _)
  rw[ev];split
  ·rename_i B;rw[aJ B] at h;exact bo h
  ·rename_i B;rw[aL B] at h;exact aG (yv (bo h))
theorem Gd:∀n d,aj.key n d=af→∀{A:pO} {E:aV→ct→Prop} {s:ct} {v:aV} {Q:Bool→ct→Prop},mR s.heap G→a8 G d v→Q af s→aH (aN aC w) A (eqIsQuiet n v) Q E s:=by
 refine nR (fun n i A E s v Q _ ⟨t,e⟩ h=> ?_) (fun n x _ A E s v Q _ ⟨t,e⟩ h=> ?_) ?_
 ·exact ak e (ak (Sx _ rfl) (bo h))
 ·exact ak e (ak (Sx _ rfl) (bo h))
 refine fun n D I A E s v Q k z h=>bK z fun a o e t=>(k af a D o t).elim fun g z=>bK z fun V m c r=> ?_;subst e c;have T:s.TypeIs (am a) "tuple":=bd _ g rfl;unfold eqIsQuiet;refine aG (ua T F.slot_tuple_eq.lookup (aG (SH T isSubtype_tuple_tuple ?_)));simp only[Su,x0,if_false];refine aG (wpAny_seqItems g rfl (aG (ak (cB RH) (SI _ (fun J r S=>r.1=ah∧S=s∧∃l,(∀d∈l,d∈D)∧dw G l J) _ ?_ ?_ _ _ ⟨rfl,rfl,D,fun _ h=>h,r⟩))))
 ·refine fun v J r S z=>dQ z fun b y z=>ay z fun l q f=>cF (Ch f) fun e L j p u=> ?_;subst y j
  ·refine aG ((I e (q e (cU _))).2 k p ?_);simp only[Su,x0,if_false];exact bo ⟨rfl,rfl,L,fun d B=>q d (e9 _ B),u⟩
 ·rintro ⟨R,C⟩ S ⟨b,rfl,_⟩;simp only at b;subst b;exact bo h
end
noncomputable def iR:Type:={d:aj//aj.key 8 d=af∧ja d=af}
noncomputable instance:DecidableEq iR:=fun a b=>Classical.propDecidable (a=b)
def rV (h:fT) (k:iR) (a:bp):Prop:=∃G,mR h G∧a8 G k.1 (am a)
theorem Ii (r:dw G ds vs):(∀e∈ds,aj.key n e=af∧∀m f,aj.key m f=af→∀v,a8 G e v→a8 g f v→e=f)→∀{E:List aj},dw g E vs→(∀e∈E,aj.key m e=af)→ds=E:=by
 induction r with
 |nil=>intro _ E R _;cases R;rfl
 |cons a _ i=>intro p E R q;cases R with
  |cons b R=>rw[(p _ (cU _)).2 _ _ (q _ (cU _)) _ a b,i (fun e h=>p e (e9 _ h)) R fun e h=>q e (e9 _ h)]
theorem FS (K:mR h G) (b:mR h c):∀n d,aj.key n d=af→∀m e,aj.key m e=af→∀v,a8 G d v→a8 c e v→d=e:=by
 refine nR (fun _ i=> ?_) (fun _ x _=> ?_) fun _ D I=> ?_
 ·exact nR (fun _ j v ⟨t,x⟩ ⟨u,y⟩=>by subst x;injection y with y;subst y;rfl) (fun _ j _ v ⟨t,x⟩ ⟨u,y⟩=>by subst x;injection y) fun _ E _ v ⟨t,x⟩ ⟨u,o,y,_⟩=>by subst x;injection y
 ·exact nR (fun _ j v ⟨t,x⟩ ⟨u,y⟩=>by subst x;injection y) (fun _ j _ v ⟨t,x⟩ ⟨u,y⟩=>by subst x;injection y with y;subst y;rfl) fun _ E _ v ⟨t,x⟩ ⟨u,o,y,_⟩=>by subst x;injection y
 refine nR (fun _ j v ⟨t,p,x,_⟩ ⟨u,y⟩=>by subst x;injection y) (fun _ j _ v ⟨t,p,x,_⟩ ⟨u,y⟩=>by subst x;injection y) fun _ E q v ⟨t,o,x,g⟩ ⟨u,p,y,f⟩=> ?_;subst x;injection y with y;subst y;obtain⟨l,V,n,s,r⟩:=K af _ _ _ g;obtain⟨a,U,k,w,R⟩:=b af _ _ _ f;subst s;subst w;have e:V=U:=by
  have a:=aS (fun o:cj=>o.data) (bD (l.symm.trans a));injection a with a;exact aS Array.toList a
 subst e;rw[Ii r I R fun e z=>(q e z).1]
theorem ma (x y:iR):aj.beq x.1 y.1=aM (x=y):=by
 by_cases h:x=y
 ·rw[cu h,h];exact(lw _ _ 8 y.2.1).mpr rfl
 ·rw[cP h];exact nV.mpr fun e=>h (Sd ((lw _ _ 8 x.2.1).mp e))
noncomputable def gS (w:bZ):HeapKind aC w iR where
 is:=rV
 hash k:=qk w k.1
 draws k:=pW k.1
 room A:=A.units+10<pQ
 inj:=fun{h a x y} ⟨G,c,g⟩ ⟨m,i,j⟩=>Sd (FS c i 8 x.1 x.2.1 8 y.1 y.2.1 _ g j)
 keeps:=fun{h N k a d o P S} ⟨G,c,g⟩ C F I=>⟨G,fun f b D L t=>(c f b D L t).elim fun q z=>⟨(I.2 b fun e=>by
  subst e;obtain⟨v,n,e,_⟩:=z;rw[C] at q;cases q;subst e;cases F).trans q,z⟩,g⟩
 pyHash:=fun{A E s k a Q} u ⟨G,c,g⟩ h=>Qf 8 k.1 k.2.1 c g (jg (ci (by decide) _) u) h
 eqBool:=fun{A E s x y a b Q} u ⟨G,c,g⟩ ⟨m,i,j⟩ h=>by
  have p:=Cr 8 _ x.2.1;have q:=Cr 8 _ y.2.1;obtain⟨M,r⟩:=o5 c 8 _ p _ g;obtain⟨B,R⟩:=o5 i 8 _ q _ j;have l:=o8 8 _ p;refine SeqAt.eqAt_reads _ _ A s _ _ M B r R l.1 (o8 8 _ q).1 (jg (ci (ao (yb ..) (aD l.2 rfl)) _) u) aC w E Q ?_;rw[uX 8 _ p 8 _ q];rw[ma];exact h
 quiet:=fun{A E s k a Q} ⟨G,c,g⟩ h=>Gd 8 k.1 k.2.1 c g h
section
variable[DecidableEq κ] {al:List (κ×β)}
noncomputable abbrev kC (k:κ→aj) (V:aj→κ×β→Prop):=dM (fun(p:aj×aj) (q:κ×β)=>p.1=k q.1∧V p.2 q)
theorem kC.get (b:∀x y,aj.beq (a x) (a y)=aM (x=y)) (k:κ) (h:kC a V s al):(f3 (a k) s=ah∧(al.find? fun x=>aM (x.1=k)).map (·.2)=ah)∨∃d q,f3 (a k) s=ac d∧(al.find? fun x=>aM (x.1=k)).map (·.2)=ac q∧V d (k,q):=by
 induction h with
 |nil=>exact av ⟨rfl,rfl⟩
 | @cons p q r R h _ i=>
  obtain⟨x,v⟩:=p;obtain⟨c,f⟩:=h;subst c;rw[y0,b,List.find?_cons];by_cases e:q.1=k
  ·exact ak (cu e) (aI (es v q.2 rfl rfl (e▸f)))
  ·exact ak (cP e) i
theorem Gt (k:aj):∀s:List (aj×aj),dA k s=(f3 k s).isSome:=by
 intro s;induction s with
 |nil=>exact rfl
 |cons X r i=>
  obtain⟨x,v⟩:=X;refine ak u1 (ak y0 ?_);cases aj.beq x k with
  |true=>rfl
  |false=>exact i
theorem kC.has (c:∀x y,aj.beq (d x) (d y)=aM (x=y)) (k:κ) (h:kC d V s al):dA (d k) s=((al.find? fun x=>aM (x.1=k)).map (·.2)).isSome:=by
 rw[Gt];rcases h.get c k with⟨a,b⟩|⟨_,_,a,b,_⟩<;>(refine ak a ?_;refine ak b ?_)<;>rfl
theorem Gr {f:κ×β→κ×β}:∀{al:List (κ×β)},k∉al.map (·.1)→al.map (fun x=>if x.1=k then f x else x)=al:=by
 intro al;induction al with
 |nil=>
  exact fun _=>rfl
 |cons x r i=>
  intro h;rw[eE,aL (show¬x.1=k from fun e=>h (e▸cU _)),i fun e=>h (e9 _ e)]
theorem yO {f:κ×β→κ×β} (l:∀x y,aj.beq (a x) (a y)=aM (x=y)) (h:kC a V s al) (g:∀e v,V e (k,v)→(f (k,v)).1=k∧V d (f (k,v))):(al.map (·.1)).Nodup→k∈al.map (·.1)→kC a V (gd (a k) d s) (al.map fun x=>if x.1=k then f x else x):=by
 induction h with
 |nil=>exact fun _ h=>nomatch h
 | @cons p Q r R h o i=>
  intro n m;obtain⟨x,v⟩:=p;obtain⟨j,b⟩:=Q;obtain⟨t,c⟩:=h;subst t;rw[eE,gn] at n;rw[uY,l,eE];by_cases e:j=k
  ·subst e;rw[cu rfl,aJ rfl,aJ rfl,Gr n.1];exact cy ⟨aS a (g _ _ c).1.symm,(g _ _ c).2⟩ o
  ·rw[cP e,aL e,aL cp];exact cy ⟨rfl,c⟩ (i n.2 ((eS.mp m).resolve_left (oh e)))
theorem BA (c:∀x y,aj.beq (a x) (a y)=aM (x=y)) (f:V d (k,b)) (h:kC a V s al):k∉al.map (·.1)→kC a V (gd (a k) d s) (al++[(k,b)]):=by
 induction h with
 |nil=>exact fun _=>cy ⟨rfl,f⟩ cI
 | @cons p Q r R h _ i=>
  intro n;obtain⟨x,v⟩:=p;obtain⟨g,j⟩:=h;subst g;rw[uY,c,cP (show¬Q.1=k from fun e=>n (e▸cU _)),aL cp];exact cy ⟨rfl,j⟩ (i fun e=>n (e9 _ e))
theorem kC.del (a:∀x y,aj.beq (d x) (d y)=aM (x=y)) (h:kC d V s al):(al.map (·.1)).Nodup→kC d V (hR (d k) s) (al.filter fun x=>aM (x.1≠k)):=by
 induction h with
 |nil=>exact fun _=>cI
 | @cons p Q r R h b i=>
  intro n;obtain⟨x,v⟩:=p;obtain⟨c,f⟩:=h;subst c;rw[eE,gn] at n;rw[M1,a];by_cases e:Q.1=k
  ·rw[cu e,aJ rfl,Dt (by rw[e];simp),DO.mpr fun x g=>cu (show x.1≠k from fun E=>n.1 (e.trans E.symm▸cr.mpr ⟨x,g,rfl⟩))];exact b
  ·rw[cP e,aL cp,Ds (p:=fun x:κ×β=>aM (x.1≠k)) (cu e)];exact cy ⟨rfl,f⟩ (i n.2)
theorem HX:(al.find? fun x=>aM (x.1=k)).isSome=af↔k∈al.map (·.1):=by
 rw[List.find?_isSome,cr];exact⟨fun z=>ay z fun x h e=>bd x h (dB e),fun z=>ay z fun x h e=>bd x h (cu e)⟩
end
noncomputable abbrev mc (G:bM):=kC (β:=aV) ae fun d q=>a8 G d q.2
noncomputable abbrev oS (G:bM):=kC (κ:=iR) (β:=bp×aV) (·.1) fun d q=>a8 G q.1.1 (am q.2.1)∧a8 G d q.2.2
noncomputable abbrev mI (w:bZ):KeyKind aC w Int:=intKind aC w
theorem ql (x y:Int):aj.beq (ae x) (ae y)=aM (x=y):=rfl
def cQ (w:bZ) (G:bM) (o:cj) (d:aj):Prop:=match d with
 |.j D=>∃v n,o=la v n∧dw G D v∧D.length≤fR
 |.c D=>∃v n,o=d5 v n∧dw G D v∧D.length≤fR
 |.e k=>k.length≤fR∧((∃al,mc G k al∧∀h a,ys h a=ac o→h.DictOf (mI w) a al)∨∃al,oS G k al∧∀h a,ys h a=ac o→(∀x∈al,rV h x.1 x.2.1)→h.DictOfH (gS w) a al)
 |_=>False
theorem cQ.mono (l:iU G g) (h:cQ w G o d):cQ w g o d:=match d,h with
 |.j _,⟨v,n,e,r,z⟩=>⟨v,n,e,dw.mono l r,z⟩
 |.c _,⟨v,n,e,r,z⟩=>⟨v,n,e,dw.mono l r,z⟩
 |.e _,⟨z,h⟩=>⟨z,h.imp (fun z=>ay z fun al a q=>bd al (a.mono fun _ _ h=>h.imp_right (a8.mono l)) q) fun z=>ay z fun al a q=>bd al (a.mono fun _ _ h=>h.imp_right fun h=>h.imp (a8.mono l) (a8.mono l)) q⟩
structure dq where
 w:bZ
 a:ct
 pl:Nat→xw
 sc:gM
 env:od
 A:pO
 n:Nat
noncomputable def fm (s:gM) (x:Nat):Option NameKind:=if x<fW.length then s.names.lookup (cc x) else ah
noncomputable def iH (s:gM) (x:Nat):Bool:=aM (fm s x=ac g6)||aM (fm s x=ac gu)
noncomputable def oN (s:gM) (x:Nat):Bool:=iH s x||aM (fm s x=ac d')
theorem xt (h:iH s x=af):fm s x=ac g6∨fm s x=ac gu:=((dK ..).mp h).imp dB dB
theorem B1 (h:oN s x=af):iH s x=af∨fm s x=ac d':=((dK ..).mp h).imp id dB
noncomputable def fX (Y:ar) (k:Nat):Option Nat:=(Y[k]?).map (·.cls)
noncomputable def fo (Y:ar) (k x:Nat):Option im:=(Y[k]?).bind fun i=>i.attrs.lookup x
noncomputable def gX (l:Bool) (c:b0):ig:=cond l (.a c) (bE c)
noncomputable def mJ:im→Option aj
 |.l d=>ac d
 |.box _=>ah
def l_ (G:bM) (k x:Nat) (v:Option aV) (a:Option (Option aj)):Prop:=match a with
 |none=>v=ah
 |some (some d)=>∃u,v=ac u∧a8 G d u
 |some none=>∃b,v=ac (am b)∧G b=ac (cJ k x)
def kx (w:bZ) (G:bM) (Y:ar) (L:au) (o:cj) (t:fl):Prop:=match t with
 |.d d p=>o=p∧cQ w G o d
 |.a p=>o=p
 |.inst k=>∃c D,fX Y k=ac c∧j6 c=af∧o.cls=am (eL c)∧(∀c,o.data≠.cls c)∧o.dict=ac D∧G D=ac (g8 k)
 |.box k x=>∃c,fo Y k x=ac (b1 c)∧cQ w G o c.frz
 |.dict k=>(fX Y k).isSome=af∧∃m,(∀h a,ys h a=ac o→h.Ns1 a m)∧(∀x,x<iE.length→l_ G k x (m (cW x)) ((fo Y k x).map mJ))∧∀n,n∉iE→m n=ah
 |.ns=>∃m,∀h a,ys h a=ac o→h.Ns a m
 |.cell=>∃v,o.data=.cell v
 |.slot l x=>∃c,bG x L=ac (gX l c)∧cQ w G o c.frz
def o0 (t:fl):Prop:=match t with
 |.inst _|.box _ _|.dict _|.slot _ _=>True
 |_=>False
def iF (G:bM) (h:fT) (x:Nat) (v:aV) (p:xw):Prop:=x<fW.length∧match p with
 |.loc a=>G a=ac eH∧∃m,h.Ns a m∧m (cc x)=ac v
 |.cell a=>G a=ac gP∧h.IsCell a (ac v)
def jw (G:bM) (x:Nat) (v:aV) (s:ig):Prop:=match s with
 |.l d=>a8 G d v
 |.own _=>∃a,v=am a∧G a=ac (bQ ai x)
 |.a _=>∃a,v=am a∧G a=ac (bQ af x)
noncomputable def BI (i:Nat):aj:=((lG[i]?).map (·.2)).getD a4
noncomputable def sM (d:aj):List aj:=match d with
 |.j D=>D
 |_=>[]
noncomputable def kI:List (bp×aj):=[125,126,127,128,129,130,131,132,133,134,135,141,143,144,145,146].zip (sM (BI 46))++[(147,46),(148,47),(149,48),(326,61),(327,62),(328,63),(329,64),(331,65),(617,68),(1061,72)].map (fun p=>(p.1,BI p.2))++[(136,.j []),(137,.j []),(138,.j []),(139,.j []),(140,.j []),(142,.j [ae 8,ae 9])]
noncomputable def d8 (w:bZ):bM:=fun a=>match(cO w.params).get? a with
 |none=>ah
 |some o=>match kI.lookup a with
  |some d=>ac (.d d o)
  |none=>ac (.a o)
structure aU (c:dq) (G:bM) (L:au) (Y:ar) (s:ct):Prop where
 same:∃h tk,s={c.a with heap:=h,toks:=tk}
 ok:∀a t,G a=ac t→∃o,s.heap.get? a=ac o∧kx c.w G Y L o t
 solo:∀a b t,o0 t→G a=ac t→G b=ac t→a=b
 base:bT ai (d8 c.w) G
 vis:∀x,match c.pl x with|.loc a=>G a=ac eH|.cell a=>G a=ac gP
 fr:∀x sl,bG x L=ac sl→∃v,iF G s.heap x v (c.pl x)∧jw G x v sl
def nG (G g:bM) (Y st':ar) (L l:au) (t:fl):Prop:=match t with
 |.inst k=>fX st' k=fX Y k
 |.box k x=>fo st' k x=fo Y k x
 |.dict k=>fX st' k=fX Y k∧∀x,(fo st' k x).map mJ=(fo Y k x).map mJ∧∀b,G b=ac (cJ k x)→g b=ac (cJ k x)
 |.slot _ x=>bG x l=bG x L
 |_=>True
theorem nG.c {Y:ar} (h:∀l x,t=bQ l x→bG x d=bG x L) (e:∀k x a,G a=ac (cJ k x)→g a=ac (cJ k x)):nG G g Y Y L d t:=by
 induction t<;>first|exact rfl|exact trivial|exact⟨rfl,fun x=>⟨rfl,fun b=>e _ _ b⟩⟩|exact h _ _ rfl
theorem nG.f {Y:ar} (h:∀k x a,G a=ac (cJ k x)→g a=ac (cJ k x)):nG G g Y Y L L t:=.c (fun _ _ _=>rfl) h
section
variable{Y:ar}
theorem kx.view (l:iU G j) (v:nG G j Y st' L n t) (h:kx w G Y L o t):kx w j st' n o t:=by
 induction t with
 |d s p=>exact⟨h.1,h.2.mono l⟩
 |a p=>exact h
 |inst k=>exact Cj h fun c D A b e f g i=>⟨c,D,uv v A,b,e,f,g,l _ _ trivial i⟩
 |box k x=>exact h.elim fun c h=>⟨c,uv v h.1,h.2.mono l⟩
 |dict k=>
  obtain⟨A,m,b,f,g⟩:=h;refine v.elim fun v u=> ?_;refine⟨v▸A,m,b,fun x r=> ?_,g⟩;have e:=f x r;rw[(u x).1];unfold l_ at e⊢;split
  ·rename_i q;rw[q] at e;exact e
  ·rename_i q;rw[q] at e;exact e.imp fun _ h=>h.imp_right (a8.mono l)
  ·rename_i q;rw[q] at e;exact e.imp fun _ h=>h.imp_right ((u x).2 _)
 |ns=>exact h
 |cell=>exact h
 |slot b x=>exact h.elim fun c h=>bd c (uv v h.1) (h.2.mono l)
theorem aU.step (k:aU c G L Y s) {tk:Nat} (l:pe G d) (b:bT ai (d8 c.w) d)
  (n:∀a t,d a=ac t→(∃o,h'.get? a=ac o∧kx c.w d st' i o t)∨(G a=ac t∧(∀o,s.heap.get? a=ac o→h'.get? a=ac o)∧nG G d Y st' L i t))
  (S:∀a b t,o0 t→d a=ac t→d b=ac t→a=b)
  (f:∀x sl,bG x i=ac sl→∃v,iF d h' x v (c.pl x)∧jw d x v sl):aU c d i st' {s with heap:=h',toks:=tk}:=
 ⟨oy k.same fun h t e=>⟨h',tk,e▸rfl⟩,fun a t e=>(n a t e).elim id fun z=>dQ z fun g q v=>ay (k.ok a t g) fun o j x=>⟨o,q o j,x.view l.w v⟩,S,b,fun x=>by have:=k.vis x;revert this;cases c.pl x<;>exact l _ _ trivial,f⟩
theorem iF.mono (l:pe G g) (q:∀a o,(G a=ac eH∨G a=ac gP)→h.get? a=ac o→h'.get? a=ac o) (y:iF G h x v p):iF g h' x v p:=by
 refine y.imp_right fun y=> ?_;induction p with
 |loc a=>exact⟨l _ _ trivial y.1,y.2.imp fun m z=>z.imp_left fun z=>z.imp fun o z=>z.imp fun e z=>z.imp fun E z=>z.imp_left (q _ _ (av y.1))⟩
 |cell a=>exact⟨l _ _ trivial y.1,y.2.imp fun o z=>z.imp_left (q _ _ (aI y.1))⟩
theorem jw.mono (l:pe G b) (g:∀a,(∃c,sl=bE c)→G a=ac (bQ ai x)→b a=ac (bQ ai x)) (y:jw G x v sl):jw b x v sl:=by
 induction sl with
 |l d=>exact a8.mono l.w y
 |own c=>exact y.imp fun a z=>z.imp_right (g a ⟨c,rfl⟩)
 |a c=>exact y.imp fun a z=>z.imp_right (l a _ rfl)
theorem aU.bs (k:aU c G L Y s) (l:bT ai G g):bT ai (d8 c.w) g:=fun a t u e=>l a t u (k.base a t u e)
theorem aU.kp (k:aU c G L Y s) {tk:Nat} (q:∀a o,(G a).isSome=af→s.heap.get? a=ac o→h'.get? a=ac o):aU c G L Y {s with heap:=h',toks:=tk}:=
 k.step (fun _ _ _ h=>h) k.base (fun a t e=>aI ⟨e,fun o=>q a o (e▸rfl),.f fun _ _ _ h=>h⟩) k.solo fun x S h=>(k.fr x S h).imp fun v y=>y.imp_left (iF.mono (fun _ _ _ h=>h) fun a o t=>q a o (t.elim (fun t=>t▸rfl) fun t=>t▸rfl))
theorem aU.tok (k:aU c G L Y s) (t:Nat):aU c G L Y {s with toks:=t}:=k.kp (h':=s.heap) fun _ _ _ h=>h
theorem aU.free (k:aU c G L Y s) (h:s.heap.get? a=ah):G a=none:=by
 induction e:G a with
 |none=>rfl
 |some t=>refine ay (k.ok a t e) fun o b _=> ?_;rw[h] at b;injection b
noncomputable def dt (G:bM) (a:bp) (t:fl):bM:=fun b=>if b=a then ac t else G b
theorem hL:dt G a t a=ac t:=aJ rfl
theorem hN (h:b≠a):dt G a t b=G b:=aL h
theorem gk (h:dt G a t b=ac u):(b=a∧u=t)∨(b≠a∧G b=ac u):=by
 by_cases e:b=a
 ·subst e;rw[hL] at h;exact av ⟨rfl,bD h.symm⟩
 ·rw[hN e] at h;exact aI ⟨e,h⟩
theorem CN (h:∀u,G a=ac u→¬i8 b u):bT b G (dt G a t):=fun B u q e=>(hN (show B≠a from fun x=>h u (x▸e) q)).trans e
theorem jX (h:G a=ah):bT b G (dt G a t):=CN fun u e=>by rw[h] at e;injection e
end
theorem kW:∀{L:au},bG y (f8 x s L)=if y=x then ac s else bG y L:=by
 intro L;induction L with
 |nil=>
     show(if x=y then ac s else ah)=if y=x then ac s else ah
     by_cases h:x=y
     ·rw[aJ h,aJ h.symm]
     ·rw[aL h,aL (oh h)]
 |cons X r i=>
  obtain⟨z,u⟩:=X;show bG y (if z=x then(z,s)::r else(z,u)::f8 x s r)=if y=x then ac s else if z=y then ac u else bG y r
  by_cases h:z=x
  ·subst h;rw[aJ rfl];show(if z=y then ac s else bG y r)=_
   by_cases e:y=z
   ·rw[aJ e,aJ e.symm]
   ·rw[aL e,aL (oh e),aL (oh e)]
  ·rw[aL h];show(if z=y then ac u else bG y (f8 x s r))=_
   rw[i];by_cases e:z=y
   ·rw[aJ e,aJ e,aL (e▸h)]
   ·rw[aL e,aL e]
theorem Dg:fW.Nodup∧iE.Nodup:=by decide+kernel
theorem wg (b:x<fW.length) (c:y<fW.length) (e:cc x=cc y):x=y:=by
 have a {j:Nat} (h:j<fW.length):fW[j]? =ac (cc j):=by unfold cc;refine ak (cS h) ?_;rfl
 exact(DY b Dg.1).mp ((a b).trans (e▸(a c).symm))
theorem uM (h:j<iE.length):iE[j]? =ac (cW j):=by unfold cW;refine ak (cS h) ?_;rfl
theorem I2 (h:x<iE.length) (a:y<iE.length) (e:cW x=cW y):x=y:=(DY h Dg.2).mp ((uM h).trans (e▸(uM a).symm))
theorem N7:∀{l:List (Nat×im)},(tg x v l).lookup y=if y=x then ac v else l.lookup y:=by
 intro l;induction l with
 |nil=>
  show kj y [(x,v)]=_;rw[fP];by_cases h:y=x
  ·rw[h,iX,aJ rfl]
  ·rw[c5.mpr h,aL h]
 |cons X r i=>
  obtain⟨z,u⟩:=X;show kj y (if z=x then(z,v)::r else(z,u)::tg x v r)=_
  by_cases a:z=x
  ·subst a;rw[aJ rfl,fP,fP];by_cases h:y=z
   ·rw[h,iX,aJ rfl]
   ·rw[c5.mpr h,aL h]
  ·rw[aL a,fP,fP,i];by_cases h:y=z
   ·subst h;rw[iX];exact(aL a).symm
   ·rw[c5.mpr h]
structure vX (k x:Nat) (v:im) (Y st':ar):Prop where
 a:jT.contains x=af
 cls:∀j,fX st' j=fX Y j
 att:∀j y,fo st' j y=if j=k∧y=x then ac v else fo Y j y
 B:(fX Y k).isSome=af
theorem qA {Y:ar} (e:gg k x v Y=ac st'):vX k x v Y st':=by
 unfold gg at e;split at e
 ·rename_i c;split at e
  ·rename_i i a;injection e with e;subst e;have b:=(hy.mp a).1;refine⟨c,fun j=> ?_,fun j y=> ?_,by unfold fX;refine ak a ?_;rfl⟩
   ·unfold fX;by_cases h:k=j
    ·subst h;rw[Re b,a];rfl
    ·rw[Rt h]
   ·unfold fo;by_cases h:k=j
    ·subst h;rw[Re b,a];show(tg x v i.attrs).lookup y=_;rw[N7];by_cases h:y=x
     ·rw[aJ h,aJ ⟨rfl,h⟩]
     ·rw[aL h,aL fun q=>h q.2];rfl
    ·rw[Rt h,aL fun q=>h q.1.symm]
  ·injection e
 ·injection e
noncomputable def mN (P:fl→Prop) (G:bM):bM:=open Classical in fun a=>match G a with
 |some t=>if P t then ah else ac t
 |none=>ah
open Classical in
theorem fk:mN P G a=ac t↔G a=ac t∧¬P t:=by
 unfold mN;cases G a with
 |none=>exact⟨fun h=>((by injection h)),fun h=>(nomatch h.1)⟩
 |some u=>
  show(if P u then ah else ac u)=ac t↔_
  by_cases h:P u
  ·rw[aJ h];exact⟨fun h=>((by injection h)),fun q=>by cases q.1;exact aR h q.2⟩
  ·rw[aL h];exact⟨fun q=>⟨q,by injection q with q;subst q;exact h⟩,fun q=>q.1⟩
theorem zz (h:∀t,P t→¬i8 b t):bT b G (mN P G):=fun a t u e=>fk.mpr ⟨e,fun p=>h t p u⟩
section
variable{Y:ar}
theorem aU.B (k:aU c G L Y s):G s.heap.objs.size=none:=k.free (by
 induction e:s.heap.get? s.heap.objs.size with
 |none=>rfl
 |some o=>exact aR (ki e) (gI _))
theorem aU.tag (k:aU c G L Y s) (n:G a=ah) (g:s.heap.get? a=ac o) (r:kx c.w G Y L o t) (S:∀b,o0 t→G b=ac t→False):aU c (dt G a t) L Y s:=by
 have l {b:Bool}:bT b G (dt G a t):=jX n;have v {u:fl}:nG G (dt G a t) Y Y L L u:=.f fun _ _ _ h=>l _ _ (av rfl) h;have d:=(l (b:=ai)).ls
 have e:=k.step (tk:=s.toks) (h':=s.heap) d (k.bs l) (fun b u e=>(gk e).elim (fun e=>av (by rw[e.1,e.2];exact bd o g (r.view d.w v))) fun e=>aI ⟨e.2,fun _ h=>h,v⟩)
  (fun b c u f x y=>(gk x).elim (fun x=>(gk y).elim (fun y=>x.1.trans y.1.symm) fun y=>(S c (x.2▸f) (x.2▸y.2)).elim) fun x=>(gk y).elim (fun y=>(S b (y.2▸f) (y.2▸x.2)).elim) fun y=>k.solo b c u f x.2 y.2)
  fun x i h=>(k.fr x i h).imp fun w y=>y.imp (iF.mono d fun _ _ _ h=>h) (jw.mono d fun b _ h=>(hN fun x=>by rw[x,n] at h;injection h).trans h)
 exact e
theorem aU.new (k:aU c G L Y s) (f:o.isFreed=ai) (r:cQ c.w G o d):aU c (dt G s.heap.objs.size (.d d o)) L Y {s with heap:=s.heap.push o}:=
 (k.kp (h':=s.heap.push o) fun _ _ _ h=>iq o h).tag k.B (g4 _ f) ⟨rfl,r⟩ fun _ h=>h.elim
end
section
variable{Y:ar}
theorem aU.frz (k:aU c G L Y s) (t:G a=ac (bQ ai x)) (e:bG x L=ac (bE q)) (m:s.heap.get? a=ac o) (r:cQ c.w G o q.frz):
  bT af G (dt G a (.d q.frz o))∧pg G (dt G a (.d q.frz o))∧hg (dt G a (.d q.frz o)) q.frz (am a)∧aU c (dt G a (.d q.frz o)) (f8 x (.l q.frz) L) Y s:=by
 have l {b:Bool}:bT b G (dt G a (.d q.frz o)):=CN fun u g=>by rw[t] at g;injection g with g;subst g;exact cp
 have d:=(l (b:=ai)).ls;have R:hg (dt G a (.d q.frz o)) q.frz (am a):=cN a o rfl hL
 refine⟨l,fun b f y g=>(gk g).elim (fun g=>nomatch g.2) fun g=>g.2,R,k.step (h':=s.heap) d (k.bs l) (fun b u g=>(gk g).elim (fun g=>av (by refine ak g.1 ?_;refine ak g.2 ?_;exact g2 o m rfl (r.mono d.w))) fun g=>aI ⟨g.2,fun _ h=>h, ?_⟩)
  (fun b e u j x y=>(gk x).elim (fun x=>(x.2▸j:o0 (.d _ _)).elim) fun x=>(gk y).elim (fun y=>(y.2▸j:o0 (.d _ _)).elim) fun y=>k.solo b e u j x.2 y.2) fun y S h=> ?_⟩
 ·refine .c (fun f y j=>kW.trans (aL fun z=>(k.ok _ _ g.2).elim fun _ h=> ?_)) fun _ _ _ h=>l _ _ (av rfl) h;subst j z;obtain⟨_,p,i,_⟩:=h;rw[e] at i;induction f with
  |true=>cases i
  |false=>exact g.1 (k.solo _ _ (bQ ai y) trivial g.2 t)
 ·rw[kW] at h;by_cases z:y=x
  ·subst z;rw[aJ rfl] at h;injection h with h;subst h;refine(k.fr y _ e).imp fun v g=>⟨g.1.mono d fun _ _ _ h=>h,(ay g.2 fun b e g=> ?_)⟩;refine ak e (ak (k.solo _ _ (bQ ai y) trivial g t) ?_);induction q<;>exact R
  ·have h:=aL z▸h;exact(k.fr y _ h).imp fun v g=>g.imp (iF.mono d fun _ _ _ h=>h) (jw.mono d fun b _ g=>(hN fun e=>by have g:=e▸g;have g:=t▸g;cases g;exact z rfl).trans g)
theorem aU.cont (k:aU c G L Y s) {tk:Nat} (i:G a=ac t) (S:o0 t) (j:hC a s.heap h') (m:h'.get? a=ac o) (r:kx c.w G st' l o t) (v:∀b u,G b=ac u→u≠t→nG G G Y st' L l u)
  (f:∀x sl,bG x l=ac sl→∃sl0,bG x L=ac sl0∧∀v,jw G x v sl0→jw G x v sl):aU c G l st' {s with heap:=h',toks:=tk}:=by
 have n {b:bp} {u:fl} (g:G b=ac u) (e:u≠t):b≠a:=by rintro rfl;rw[i] at g;injection g with g;subst g;exact e rfl
 refine k.step (fun _ _ _ h=>h) k.base (fun b u g=> ?_) k.solo fun x sl h=>(f x sl h).elim fun sl0 h=>(k.fr x sl0 h.1).imp fun v g=>⟨g.1.mono (fun _ _ _ h=>h) fun b p g d=>(j.2 b (g.elim (fun g=>n g (by rintro rfl;exact S)) fun g=>n g (by rintro rfl;exact S))).trans d,h.2 v g.2⟩;by_cases e:u=t
 ·subst e;exact ak (k.solo _ _ _ S g i) (av (bd o m r))
 ·exact aI ⟨g,fun p d=>(j.2 b (n g e)).trans d,v b u g e⟩
theorem kB (h:gX l p=gX f q):l=f∧p=q:=by
 induction l<;>induction f<;>cases h<;>exact⟨rfl,rfl⟩
theorem np (e:gR x L=ac q):∃l,bG x L=ac (gX l q):=by
 have e:(match bG x L with|some (.own c)=>ac c|some (.a c)=>ac c|_=>ah)=ac q:=e
 cases h:bG x L with
 |none=>rw[h] at e;exact nomatch e
 |some s=>
  rw[h] at e;induction s with
  |own c=>exact⟨ai,bD e▸rfl⟩
  |a c=>exact⟨af,bD e▸rfl⟩
  |l _=>exact nomatch e
theorem aU.peek (k:aU c G L Y s) (e:bG x L=ac (gX l q)):∃a,iF G s.heap x (am a) (c.pl x)∧G a=ac (bQ l x):=
 (k.fr x _ e).elim fun v g=>by induction l<;>exact g.2.elim fun a y=>bd a (y.1▸g.1) y.2
theorem aU.slAt (k:aU c G L Y s) (t:G a=ac (bQ l x)) (e:gR x L=ac q):bG x L=ac (gX l q)∧∃o,s.heap.get? a=ac o∧cQ c.w G o q.frz:=by
 obtain⟨o,d,p,h,r⟩:=k.ok _ _ t;obtain⟨f,b⟩:=np e;rw[h] at b;obtain⟨rfl,rfl⟩:=kB (bD b);exact⟨h,o,d,r⟩
theorem aU.poke (k:aU c G L Y s) {tk:Nat} (t:G a=ac (bQ l x)) (e:bG x L=ac (gX l p)) (d:hC a s.heap h') (j:h'.get? a=ac o) (r:cQ c.w G o q.frz):aU c G (f8 x (gX l q) L) Y {s with heap:=h',toks:=tk}:=by
 refine k.cont t trivial d j (bd q (kW.trans (aJ rfl)) r) (fun b u g m=> ?_) fun y z h=> ?_
 ·refine .c (fun f y n=>kW.trans (aL fun z=>(k.ok _ _ g).elim fun _ h=> ?_)) fun _ _ _ h=>h;subst n z;obtain⟨_,p,i,_⟩:=h;rw[e] at i;exact m ((kB (bD i)).1▸rfl)
 ·rw[kW] at h;by_cases q:y=x
  ·subst q;rw[aJ rfl] at h;injection h with h;subst h;exact⟨_,e,fun v h=>by induction l<;>exact h⟩
  ·rw[aL q] at h;exact bd z h (fun _ h=>h)
theorem xO (g:bG x L=ac (gX l p)) (e:jr x q L=ac a):a=f8 x (gX l q) L:=by
 unfold jr at e;rw[g] at e;induction l<;>cases e<;>rfl
theorem aU.pokeB (k:aU c G L Y s) {tk:Nat} (t:G a=ac (cJ j x)) (e:fo Y j x=ac (b1 p)) (d:hC a s.heap h') (l:h'.get? a=ac o) (r:cQ c.w G o q.frz) (u:vX j x (b1 q) Y st'):aU c G L st' {s with heap:=h',toks:=tk}:=by
 refine k.cont t trivial d l (bd q ((u.att ..).trans (aJ ⟨rfl,rfl⟩)) r) (fun b w g m=> ?_) fun y z h=>bd z h (fun _ h=>h);induction w with
 |slot f y=>exact rfl
 |inst i=>exact u.cls i
 |box i y=>exact(u.att ..).trans (aL fun h=>m (by rw[h.1,h.2]))
 |dict i=>
   refine⟨u.cls i,fun y=>⟨?_,fun b h=>h⟩⟩;rw[u.att];by_cases h:i=j∧y=x
   ·rw[aJ h,h.1,h.2,e];rfl
   ·rw[aL h]
 |_=>exact trivial
end
structure bj (r:bZ×Nat) (c:dq):Prop where
 r:(c.w,c.n)=r
 l:c.env.scope.kind=k4
 u:c.env.globals=n_
 B:c.env.builtins=ry
 loc:∀x,fm c.sc x=ac g6→c.env.kindOf (cc x)=ac g6∧c.pl x=hG c.env.locals
 cell:∀x,fm c.sc x=ac gu→c.env.kindOf (cc x)=ac gu∧∃a,c.env.cells.lookup (cc x)=ac a∧c.pl x=gQ a
 free:∀x,fm c.sc x=ac d'→(c.env.kindOf (cc x)=ac gu∨c.env.kindOf (cc x)=ac d')∧∃a,c.env.cells.lookup (cc x)=ac a∧c.pl x=gQ a
 glob:∀y,c.sc.names.lookup y=ac pC→c.env.kindOf y=ac pC
 sep:∀x y a,x<fW.length→y<fW.length→c.pl x=gQ a→c.pl y=gQ a→x=y
 b:c.A.handled=ah
 d:c.A.depth+8*c.n+8≤900
 j:c.A.units+40*c.n+40≤9000
theorem kO (h:fm s x=ac k):x<fW.length:=by
 unfold fm at h;split at h
 ·assumption
 ·injection h
section
variable{Y:ar}
theorem AG:∀x∈fW,(x==("__debug__":br))=ai∧(x==("__classdict__":br))=false:=by decide+kernel
theorem uS (h:x<fW.length):cc x∈fW:=by unfold cc;exact ak (cS h) (k1 h)
theorem qJ (o:bj w c) (f:oN c.sc x=af) (p:iF G s.heap x v (c.pl x)) (q:Q v s):aH (aN aC c.w) c.A (bO (ey (cc x) pos) c.env) Q E s:=by
 have h:=AG _ (uS p.1);refine wpAny_Name ?_ h.1;rcases(B1 f).imp xt id with(e|e)|e
 ·obtain⟨a,b⟩:=o.loc x e;rw[b] at p;obtain⟨_,_,m,n,e⟩:=p;exact wpAny_loadName_local o.l a n e q
 ·obtain⟨a,d,b,e⟩:=o.cell x e;rw[e] at p;exact wpAny_loadName_cell o.l a b p.2.2 q
 ·obtain⟨a,d,b,e⟩:=o.free x e;rw[e] at p;exact a.elim (fun a=>wpAny_loadName_cell o.l a b p.2.2 q) fun a=>Se o.l a b p.2.2 q h.2
theorem aU.name (k:aU c G L Y s) {tk:Nat} (T:t=eH∨t=gP) (D:G a=ac t) (C:hC a s.heap h') (I:∃o,h'.get? a=ac o∧∀G Y L,kx c.w G Y L o t) (N:j5 x L=ai) (l:bT af G m)
  (g:∀b u,m b=ac u→(u≠bQ ai x∧G b=ac u)∨(u=bQ ai x∧(∃q,sl=bE q∧∃o,s.heap.get? b=ac o∧cQ c.w G o q.frz)∧b≠a∧∀d,m d=ac u→d=b))
  (M:∀b y,y≠x→G b=ac (bQ ai y)→m b=ac (bQ ai y)) (p:iF m h' x v (c.pl x)) (P:∀y u,y≠x→iF G s.heap y u (c.pl y)→iF m h' y u (c.pl y)) (S:jw m x v sl):aU c m (f8 x sl L) Y {s with heap:=h',toks:=tk}:=by
 refine k.step l.ls (k.bs l.low) (fun b u e=> ?_) (fun b d u Q e f=> ?_) fun y z h=> ?_
 ·rcases g b u e with⟨n,e⟩|⟨rfl,⟨q,rfl,o,h,r⟩,n,_⟩
  ·by_cases A:b=a
   ·exact .inl (I.imp fun o h=>⟨A▸h.1,(Option.some.inj (D.symm.trans (A▸e)):t=u)▸h.2 ..⟩)
   ·refine .inr ⟨e,fun o h=>(C.2 b A).trans h,.c (fun f y z=>kW.trans (if_neg fun i=> ?_)) fun _ _ _ h=>l _ _ (.inl rfl) h⟩;induction f with
    |false=>exact n (i▸z)
    |true=>obtain⟨_,_,_,j,_⟩:=k.ok _ _ (z▸e);unfold j5 at N;rw[←i,j] at N;exact nomatch N
  ·exact av ⟨o,(C.2 b n).trans h,q,kW.trans (aJ rfl),r.mono l.ld⟩
 ·rcases g b u e with⟨n,R⟩|⟨rfl,_,_,w⟩
  ·rcases g d u f with⟨_,F⟩|⟨z,_⟩
   ·exact k.solo b d u Q R F
   ·exact absurd z n
  ·exact(w d f).symm
 ·rw[kW] at h;by_cases e:y=x
  ·rw[if_pos e] at h;exact⟨v,e▸p,Option.some.inj h▸e▸S⟩
  ·rw[if_neg e] at h;exact(k.fr y z h).imp fun u w=>⟨P y u e w.1,w.2.mono l.ls fun b _ i=>M b y e i⟩
theorem y2 (F:bj w c) (k:aU c G L Y s) (ε:iH c.sc x=af) (N:j5 x L=ai) (l:bT af G I)
  (g:∀b u,I b=ac u→(u≠bQ ai x∧G b=ac u)∨(u=bQ ai x∧(∃q,sl=bE q∧∃o,s.heap.get? b=ac o∧cQ c.w G o q.frz)∧(∀t,t=eH∨t=gP→G b≠ac t)∧∀d,I d=ac u→d=b))
  (X:∀b y,y≠x→G b=ac (bQ ai y)→I b=ac (bQ ai y)) (S:jw I x v sl) (h:∀Z,aU c I (f8 x sl L) Y Z→Q () Z):aH (aN aC c.w) c.A (yC c.env (cc x) v) Q E s:=by
 have α {a:bp} {t:fl} (ζ:t=eH∨t=gP) (e:G a=ac t):=fun b u i=>(g b u i).imp_right fun z=>iD z fun p q r z=>(nf p q (fun j=>r t ζ (j▸e):b≠a) z:_∧_∧_∧_);have B:=k.vis x;rcases xt ε with e|e
 ·obtain⟨a,b⟩:=F.loc x e;have B:=b▸B;dsimp only at B;obtain⟨o,P,m,R⟩:=k.ok _ _ B;refine wpAny_storeName_local a (R _ _ P) (fun η n C=>h _ ?_) (by refine ak F.l ?_;rfl);obtain⟨T,θ,ι,i,j⟩:=id n;refine k.name (.inl rfl) B C (bd T i (fun _ _ _=>⟨_,fun h a e=>iT T θ ι e j⟩)) N l (α (.inl rfl) B) X ⟨kO e,by refine ak b ?_;exact⟨l _ _ trivial B,_,n,if_pos rfl⟩⟩ (fun y u U p=>⟨p.1, ?_⟩) S;refine p.elim fun W p=> ?_
  revert p
  induction β:c.pl y with
  |loc A=>
   rintro ⟨p,M,γ,δ⟩;by_cases z:A=c.env.locals
   ·subst z;exact⟨l _ _ trivial p,_,n,(aL fun i=>U (wg W (kO e) i)).trans ((congrFun ((R _ _ P).eq_nsMap.trans γ.eq_nsMap.symm) _).trans δ)⟩
   ·exact⟨l _ _ trivial p,M,γ.sameBut C z,δ⟩
  |cell d=>exact fun p=>⟨l _ _ trivial p.1,p.2.sameBut C (by rintro rfl;have B:=p.1▸B;cases B)⟩
 ·obtain⟨a,d,b,f⟩:=F.cell x e;have B:=f▸B;dsimp only at B;obtain⟨o,P,V,R⟩:=k.ok _ _ B;refine wpAny_storeName_cell F.l a b (bd o P R) fun η n C=>h _ ?_;obtain⟨T,i,j⟩:=id n;refine k.name (aI rfl) B C (bd T i (fun _ _ _=>⟨_,j⟩)) N l (α (aI rfl) B) X ⟨kO e,by refine ak f ?_;exact⟨l _ _ trivial B,n⟩⟩ (fun y u U p=>⟨p.1, ?_⟩) S;refine p.elim fun W p=> ?_
  revert p
  induction β:c.pl y with
  |loc A=>exact fun p=>⟨l _ _ trivial p.1,p.2.imp fun m q=>q.imp_left fun q=>q.sameBut C (by rintro rfl;have B:=p.1▸B;cases B)⟩
  |cell D=>exact fun p=>⟨l _ _ trivial p.1,p.2.sameBut C (by rintro rfl;exact U (F.sep _ _ _ W (kO e) β f))⟩
theorem sr (o:bj w c) (k:aU c G L Y s) (a:iH c.sc x=af) (N:j5 x L=ai) (D:a8 G d v) (h:∀g S,bT af G g→pg G g→aU c g (f8 x (.l d) L) Y S→Q () S):aH (aN aC c.w) c.A (yC c.env (cc x) v) Q E s:=
 have l:=zz fun t e=>by exact ak e cp
 y2 o k a N l (fun b u e=>av ⟨(fk.mp e).2,(fk.mp e).1⟩) (fun b y n e=>fk.mpr ⟨e,fun q=>n (by cases q;rfl)⟩) (sl:=.l d) (D.mono l.ld) fun S=>h _ S l fun b f y e=>(fk.mp e).1
theorem sB (f:bj w c) (k:aU c G L Y s) (v:iH c.sc x=af) (j:j5 x L=ai) (n:G a=ah) (m:s.heap.get? a=ac o) (r:cQ c.w G o q.frz) (h:∀g S,bT af G g→aU c g (f8 x (bE q) L) Y S→Q () S):aH (aN aC c.w) c.A (yC c.env (cc x) (am a)) Q E s:=by
 have N {b:bp} {t:fl} (e:G b=ac t):b≠a:=by rintro rfl;rw[n] at e;injection e
 have l:bT af G (dt (mN (·=bQ ai x) G) a (bQ ai x)):=fun b t u e=>(hN (N e)).trans (fk.mpr ⟨e,fun z=>by rw[z] at u;injection u⟩);refine y2 f k v j l (fun b u e=>(gk e).elim (fun e=>aI ⟨e.2,⟨q,rfl,o,e.1▸m,r⟩,fun t _ i=>N i e.1,fun d i=> ?_⟩) fun e=>av ⟨(fk.mp e.2).2,(fk.mp e.2).1⟩) (fun b y z e=>(hN (N e)).trans (fk.mpr ⟨e,fun q=>z (by cases q;rfl)⟩)) (bd a rfl hL) fun S=>h _ S l;exact(gk i).elim (fun i=>i.1.trans e.1.symm) fun i=>aR e.2 (fk.mp i.2).2
end
theorem hW [BEq c] [LawfulBEq c] {l:List (c×β)} (h:l.lookup a=ac b):(a,b)∈l:=(Ra.mp h).elim fun _ h=>h.elim fun _ h=>h.1▸eD _ (cU _)
theorem FT {f:bp→Option cj} {l:List bp} (h:kj a (l.filterMap fun a=>(f a).map fun o=>(a,o))=ac o):f a=ac o:=
 (List.mem_filterMap.mp (hW h)).elim fun b h=>(dg.mp h.2).elim fun q h=>(aS f (aS (·.1) h.2).symm).trans (h.1.trans (aS (fun p=>ac p.2) h.2))
noncomputable def hu (P:bY):Frag:=[120,119,180,179,439,438,774,773,897,896,942,941,1051,1050,376,375,96,103,110,117,163,170,177,394,401,408,415,422,429,436,645,652,680,750,894,939,1048].filterMap fun a=>((cO P).get? a).map fun o=>(a,o)
theorem PZ (P:bY):(nL.map fun c=>(lZ (hu P) (am c.2) "__getattribute__",lZ (hu P) (am c.2) "__getattr__",(clsIn (hu P) c.2).map (·.hasDict),jT.map fun x=>lZ (hu P) (am c.2) (cW x)))=
 nL.map fun c=>(ac (ac (bJ "object.__getattribute__")),ac ah,ac af,jT.map fun x=>ac ah):=by kernel_rfl
theorem NU (P:bY):([109,156,198,232].map fun c=>(lZ (hu P) (am (eL c)) "__setattr__",plainOver (hu P) (eL c),j6 c))=[109,156,198,232].map fun c=>(ac (ac (bJ "object.__setattr__")),af,af):=by kernel_rfl
theorem xh:∀x∈jT,x<iE.length∧copiedNames.contains (cW x)=false:=by decide+kernel
theorem sk (h:jT.contains x=af):x∈jT:=ee.mp h
theorem tb (h:j6 c=af):(c,eL c)∈nL:=(mW.mp h).elim fun a e=>by
 have:=hW e;unfold eL;exact ak e this
theorem wf (P:bY) (h:j6 c=af):lZ (hu P) (am (eL c)) "__getattribute__"=ac (ac (bJ "object.__getattribute__"))∧lZ (hu P) (am (eL c)) "__getattr__"=ac ah∧(∃C,clsIn (hu P) (eL c)=ac C∧C.hasDict=af)∧∀x,jT.contains x=af→lZ (hu P) (am (eL c)) (cW x)=ac none:=by
 have h:=jH.mp (PZ P) _ (tb h);injection h with a h;injection h with b h;injection h with d e;exact⟨a,b,(dg.mp d),fun x f=>jH.mp e x (sk f)⟩
theorem zF {Y:ar} (e:ie j x Y=ac a):jT.contains x=af∧fo Y j x=ac a:=by
 unfold ie at e;split at e
 ·exact⟨by assumption,e⟩
 ·injection e
section
variable{Y:ar}
theorem aU.head (k:aU c G L Y s) (h:(cO c.w.params).get? a=ac o):s.heap.get? a=ac o∧∃t,G a=ac t∧(t=.a o∨∃d,t=.d d o):=by
 have y:∃t,d8 c.w a=ac t∧i8 ai t∧(t=.a o∨∃d,t=.d d o):=by
  unfold d8;refine ak h ?_;cases kI.lookup a with
  |none=>exact⟨_,rfl,trivial,av rfl⟩
  |some d=>exact g2 _ rfl trivial (aI ⟨d,rfl⟩)
 refine eA y fun t e u q=> ?_;have g:=k.base a t u e;refine⟨ay (k.ok a t g) fun p b z=> ?_,t,g,q⟩;rcases q with rfl|⟨d,rfl⟩
 ·exact z▸b
 ·exact z.1▸b
theorem aU.kf (k:aU c G L Y s):(hu c.w.params).In s.heap:=fun a o e=>(k.head (FT e)).1
structure Au (c:dq) (G:bM) (Y:ar) (s:ct) (a:bp) (j i:Nat) (o b:cj) (d:bp) (m:br→Option aV):Prop where
 cls:fX Y j=ac i
 ok:j6 i=af
 inst:W.InstAt s.heap a o (eL i) (ac b)
 ncls:∀c,o.data≠.cls c
 dict:o.dict=ac d
 tag:G d=ac (g8 j)
 ns:s.heap.Ns1 d m
 look:∀n,lookIn n b=ac (m n)
 attrs:∀x,x<iE.length→l_ G j x (m (cW x)) ((fo Y j x).map mJ)
 only:∀n,n∉iE→m n=ah
theorem LL {m:br→Option aV} (h:o.data=k9 E p) (k:StrKeys E) (f:∀x,nsFind E x=m x) (n:br):lookIn n o=ac (m n):=by
 unfold lookIn;refine ak h ?_;dsimp only;refine ak (cB (f n)) ?_;have r:(E.toList.any (·.refKey))=false:=RV.mpr fun e a=>by
  refine oy (k e (Rp.mp a)) fun n t b=> ?_;unfold DictEntry.refKey;exact ak b cp
 unfold nsFind findBy;refine ak (cB (Array.find?_toList)) ?_;cases E.toList.find? (fun e=>e.key.isStr n) with
 |none=>refine ak r ?_;rfl
 |some e=>rfl
theorem aU.inst (k:aU c G L Y s) (t:G a=ac (ga j)) {g:Prop} (h:∀i o d D m,Au c G Y s a j i o d D m→g):g:=by
 obtain⟨o,u,i,D,v,l,w,b,q,r⟩:=k.ok _ _ t;obtain⟨d,f,_,m,y,z,A⟩:=k.ok _ _ r;have n:=y _ _ f;refine xf (id n) fun M N p e C F _ I=> ?_;rw[f] at e;injection e with e;subst e;refine h i o d D m ⟨v,l,⟨u,w, ?_,by refine ak q ?_;exact f⟩,b,q,r,n,LL C F I,z,A⟩;unfold notCls;clear l;generalize o.data=x at b⊢;induction x using PySem.Data.casesOn<;>first|rfl|exact absurd rfl (b _)
theorem OF (h:a8 G d v):handedIn v=true:=by
 induction d using aj.casesOn<;>first|(cases(h);rfl)|(obtain⟨_,h⟩:=h;cases(h);rfl)|(obtain⟨_,h,_⟩:=h;subst h;rfl)|(obtain⟨_,_,h,_⟩:=h;subst h;rfl)
theorem qo {c β:Type} {o:Option c} {a:c} {b:Option β} {f:c→Option β} (h:o=ac a) (g:f a=b):o.bind f=b:=h▸g
theorem AL (k:aU c G L Y s) {a:bp} {x:Nat} {v:im} (t:G a=ac (ga j)) (e:ie j x Y=ac v) (h:∀u tk,l_ G j x (ac u) (ac (mJ v))→Q u {s with toks:=tk}):aH (aN aC c.w) c.A (getAttr (am a) (cW x) b) Q E s:=k.inst t fun i o n D m I=>by
 obtain⟨g,e⟩:=zF e;refine iD (wf c.w.params I.ok) fun p M y r=>ay y fun C w z=> ?_;have A:=I.attrs x (xh x (sk g)).1;have A:=e▸A;have f:∃u,m (cW x)=ac u∧handedIn u=true:=by
  induction v with
  |l d=>exact A.imp fun u h=>⟨h.1,OF h.2⟩
  |box q=>exact A.elim fun b h=>bd _ h.1 rfl
 refine ay f ?_;clear f;intro u f B;refine get_value k.kf I.inst p ?_ B (h u _ (f▸A));have F:W.ownOf C (ac n) (cW x)=ac (ac u):=by
  unfold W.ownOf;exact ak z ((I.look _).trans (aS ac f))
 unfold findObj;exact qo w (qo (r x g) (qo rfl (qo rfl (qo F rfl))))
end
noncomputable def kA (G:bM) (a:bp):bM:=fun b=>if b=a then ah else G b
theorem kr:kA G a b=ac t↔b≠a∧G b=ac t:=by
 unfold kA;by_cases h:b=a
 ·rw[aJ h];exact⟨fun h=>((by injection h)),fun q=>aR h q.1⟩
 ·rw[aL h];exact⟨fun q=>⟨h,q⟩,fun q=>q.2⟩
theorem r0 (l:bT b G g) (n:G a=ah):bT b G (kA g a):=fun d t u e=>kr.mpr ⟨(by rintro rfl;rw[n] at e;injection e),l d t u e⟩
theorem s_:kA G a a=none:=aJ rfl
section
variable{Y:ar}
theorem aU.keep (k:aU c G L Y s) (n:G a=ah) (b:s.heap.get? a=ac o):aU c (dt G a (.a o)) L Y s:=k.tag n b rfl fun _ h=>h.elim
theorem aU.gb (k:aU c G L Y s) (n:G a=ah):d8 c.w a=none:=by
 induction e:d8 c.w a with
 |none=>rfl
 |some t=>
  have:i8 ai t:=by
   unfold d8 at e;split at e
   ·injection e
   ·split at e<;>cases e<;>trivial
  have:=k.base a t this e;rw[n] at this;injection this
theorem aU.rm (k:aU c G L Y s) (n:d8 c.w a=ah) (t:G a=ac (.a o)):aU c (kA G a) L Y s:=by
 have U {b:bp} {u:fl} (h:u≠.a o) (e:G b=ac u):kA G a b=ac u:=kr.mpr ⟨by rintro rfl;rw[t] at e;injection e with e;subst e;exact h rfl,e⟩;have d:pe G (kA G a):=fun b u q e=>U (by rintro rfl;exact q) e;refine k.step (h':=s.heap) d (fun b u q e=>kr.mpr ⟨(by rintro rfl;rw[n] at e;injection e),k.base b u q e⟩) (fun b u e=>aI ⟨(kr.mp e).2,fun _ h=>h,.f fun i x b=>U fun h=>(by injection h)⟩) (fun b e u h x y=>k.solo b e u h (kr.mp x).2 (kr.mp y).2) fun x S e=>(k.fr x S e).imp fun v y=>y.imp (iF.mono d fun _ _ _ h=>h) (jw.mono d fun _ _=>U fun h=>(by injection h))
theorem zf (e:nq j x a Y=ac st'):vX j x a Y st'∧(∀i,fX Y j=ac i→i∈[109,156,198,232])∧(jn j x=af→fo Y j x=ah):=by
 unfold nq at e;split at e
 ·rename_i h;have b:gg j x a Y=ac st'∧(jn j x=af→ie j x Y=ah):=by
   split at e
   ·split at e
    ·injection e
    ·rename_i q;exact⟨e,fun z=>aR z q⟩
   ·rename_i q;exact⟨e,fun _=>q⟩
  have u:=qA b.1;refine fg u (fun i c=> ?_) (fun z=> ?_)
  ·unfold zw at h;unfold fX at c;refine ay (dg.mp c) fun q d y=> ?_;subst y;rw[d] at h;exact ee.mp h
  ·have:=b.2 z;unfold ie at this;rw[aJ u.a] at this;exact this
 ·injection e
theorem BM (k:aU c G L Y s) (I:Au c G Y s a j i o T d m) (p:i∈[109,156,198,232]) (r:jT.contains x=af)
  (h:∀h' tk,h'.Ns1 d (fun y=>if y=cW x then ac v else m y)→hC d s.heap h'→Q () {s with heap:=h',toks:=tk}):aH (aN aC c.w) c.A (uz (am a) (cW x) v) Q E s:=by
 have q:=jH.mp (NU c.w.params) _ p;injection q with t q;injection q with u w;refine iD (wf c.w.params w) fun _ _ z A=>ay z fun C B F=>set_plain k.kf I.inst t ?_;have f:=k.tok (s.toks+1);refine osa_open f.kf I.inst u (by unfold takerIn;refine ak (A x r) ?_;rfl) fun b=> ?_;have l:=I.inst.cls;have M:=I.dict;obtain⟨U,V,W,X⟩:=o;subst l M;refine aG (bo (aG (aG (wpAny_loadPart I.inst.at_ (aG ((looks_clsIn f.kf B).here (ak F (bo (aG (bo (aG (wpAny_nsSet1 I.ns fun h' g N=>(jS (g.count (Within.cons (cW x) v fun n P=>gl fun q=>P (I.only n q))) fun Z e α D R S=> ?_)))))))))))));exact aG (wpAny_lookBehind D (by refine ak R ?_;exact pastItsLine_dict (ao S (by refine ak jj ?_;exact b3 (lM rfl:iE.length≤16777216)))) (bo (h h' _ g N)))
theorem aU.lat (k:aU c G L Y s) (n:jn j x=af→fo Y j x=ah) (g:∀b t,t≠cJ j x→G b=ac t→a b=ac t):bT ai G a:=fun b t w e=>by
 by_cases h:t=cJ j x
 ·subst h;obtain⟨_,_,q,e,_⟩:=k.ok _ _ e;rw[n (w.resolve_left cp)] at e;injection e
 ·exact g b t h e
theorem aU.attr (k:aU c G L Y s) {tk:Nat} (I:Au c G Y s a j i o ε D m) (u:vX j x U Y st') (N:jn j x=af→fo Y j x=ah)
  (P:h'.Ns1 D (fun y=>if y=cW x then ac v else m y)) (T:hC D s.heap h')
  (g:∀b t,M b=ac t→(t≠cJ j x∧G b=ac t)∨(t=cJ j x∧(∃q,U=b1 q∧∃o,b≠D∧s.heap.get? b=ac o∧cQ c.w G o q.frz)∧∀d,M d=ac t→d=b)) (Q:∀b t,t≠cJ j x→G b=ac t→M b=ac t) (X:l_ M j x (ac v) (ac (mJ U))):aU c M L st' {s with heap:=h',toks:=tk}:=by
 have l:=k.lat N Q;refine k.step l.ls (k.bs l) (fun b t e=> ?_) (fun b d t w e f=> ?_) fun y S e=>(k.fr y S e).imp fun w z=>z.imp (iF.mono l.ls fun b R q C=>(T.2 b (by rintro rfl;rw[I.tag] at q;exact q.elim (fun q=>nomatch q) fun q=>nomatch q)).trans C) (jw.mono l.ls fun b _ e=>Q _ _ (fun h=>(by injection h)) e)
 ·rcases g b t e with⟨n,e⟩|⟨rfl,⟨q,rfl,o,C,Z,r⟩,_⟩
  ·by_cases C:b=D
   ·have A:∃o,h'.get? D=some o∧kx c.w M st' L o (.dict j):=by
     refine hQ (id P) fun R α p β γ=>⟨R,β,u.cls j▸u.B,_,fun h a e=>⟨R,α,p,e,γ⟩,fun y V=> ?_,fun n P=> ?_⟩
     ·rw[u.att];by_cases h:y=x
      ·rw[aJ (aS cW h),aJ ⟨rfl,h⟩];exact h▸X
      ·rw[aL fun q=>h (I2 V (xh x (sk u.a)).1 q),aL fun q=>h q.2];have:=I.attrs y V;unfold l_ at this⊢;split
       ·rename_i q;rw[q] at this;exact this
       ·rename_i q;rw[q] at this;exact this.imp fun _ h=>h.imp_right (a8.mono l.ld)
       ·rename_i q;rw[q] at this;exact this.imp fun _ h'=>h'.imp_right (Q _ _ (by rintro ⟨⟩;exact h rfl))
     ·exact(aL (by rintro rfl;exact P (eR (uM (xh x (sk u.a)).1)))).trans (I.only n P)
    exact av (A.imp fun o h=>⟨C▸h.1,(bD (I.tag.symm.trans (C▸e)):_=t)▸h.2⟩)
   ·refine aI ⟨e,fun R h=>(T.2 b C).trans h, ?_⟩;induction t with
    |inst i=>exact u.cls i
    |box i y=>exact(u.att ..).trans (aL fun h=>n (by rw[h.1,h.2]))
    |dict i=>
     have W:i≠j:=by rintro rfl;exact C (k.solo _ _ (g8 i) trivial e I.tag)
     exact⟨u.cls i,fun y=>⟨by rw[u.att,aL fun h=>W h.1],fun b=>Q _ _ (by rintro ⟨⟩;exact W rfl)⟩⟩
    |slot f y=>exact rfl
    |_=>exact trivial
  ·exact av ⟨o,(T.2 b C).trans Z,q,(u.att ..).trans (aJ ⟨rfl,rfl⟩),r.mono l.ld⟩
 ·rcases g b t e with⟨n,δ⟩|⟨rfl,_,q⟩
  ·rcases g d t f with⟨_,F⟩|⟨z,_⟩
   ·exact k.solo b d t w δ F
   ·exact absurd z n
  ·exact(q d f).symm
theorem y5 (k:aU c G L Y s) (t:G a=ac (ga j)) (e:nq j x (.l d) Y=ac st') (D:a8 G d v) (h:∀g S,bT ai G g→(∀b f y,G b=ac (bQ f y)→g b=ac (bQ f y))→aU c g L st' S→Q () S):aH (aN aC c.w) c.A (uz (am a) (cW x) v) Q E s:=k.inst t fun i o w z m I=>by
 refine dQ (zf e) fun u p N=>BM k I (p i I.cls) u.a fun A T q r=> ?_;have U:∀b t,t≠cJ j x→G b=ac t→mN (·=cJ j x) G b=ac t:=fun b t n e=>fk.mpr ⟨e,n⟩;have l:=k.lat N U;exact h _ _ l (fun b f y=>U b _ fun h=>(by injection h)) (k.attr I u N q r (fun b t e=>av ⟨(fk.mp e).2,(fk.mp e).1⟩) U (bd v rfl (D.mono l.ld)))
theorem GF (k:aU c G L Y s) {D:bp} (t:G a=ac (ga j)) (e:nq j x (b1 p) Y=ac st') (n:G D=ah) (q:s.heap.get? D=ac o) (r:cQ c.w G o p.frz) (h:∀g S,bT ai G g→(∀b f y,G b=ac (bQ f y)→g b=ac (bQ f y))→aU c g L st' S→Q () S):aH (aN aC c.w) c.A (uz (am a) (cW x) (am D)) Q E s:=k.inst t fun i B C F m I=>by
 obtain⟨u,v,N⟩:=zf e;refine BM k I (v i I.cls) u.a fun M T w A=> ?_;have l {b:bp} {t:fl} (e:G b=ac t):b≠D:=by rintro rfl;rw[n] at e;cases e
 have U:∀b t,t≠cJ j x→G b=ac t→dt (mN (·=cJ j x) G) D (cJ j x) b=ac t:=fun b t z e=>(hN (l e)).trans (fk.mpr ⟨e,z⟩);exact h _ _ (k.lat N U) (fun b f y=>U b _ fun h=>nomatch h) (k.attr I u N w A (fun b t e=>(gk e).elim (fun e=>aI ⟨e.2,⟨p,rfl,o,e.1▸(l I.tag).symm,e.1▸q,r⟩,fun d i=>((gk i).elim (fun i=>i.1.trans e.1.symm) fun i=>aR e.2 (fk.mp i.2).2)⟩) fun e=>av ⟨(fk.mp e.2).2,(fk.mp e.2).1⟩) U ⟨D,rfl,hL⟩)
end
variable{wn:bZ×Nat}
noncomputable def l8 (S:gM) (y:br):Bool:=aM (S.names.lookup y=ac pC)
noncomputable def mq (S:gM) (g:Nat):Bool:=l8 S (d_ g)&&((j0.any fun p=>p.2==g)&&(!fx 100 g||((kD g).isSome||(jb.lookup g).isSome)))
noncomputable def uH (S:gM) (d:aj) (e:c6):Bool:=match(fE e).c with
 |some q=>l8 S q.1&&match lG.lookup q.1 with
  |some c=>aj.beq c d
  |none=>ai
 |none=>match d with
  |.none=>af
  |.bool _=>af
  |.int _=>af
  |.str _=>af
  |_=>ai
noncomputable def pX (m:bt):Bool:=match m with
 |.call _ []=>ai
 |_=>af
noncomputable def wi (f S:gM) (t:e4):Bool:=aM (S.kind=k4)&& !(fG t).isEmpty&&aM ((S.names.map (·.1)).Nodup)&&aM (fG t).Nodup&&((fG t).all fun i=>aM (fm S i=ac g6))&&
 S.names.all fun p=>match p.2 with
  |.local=>aM (p.1∈(fG t).map cc)||aM (p.1=gp ".0")
  |.free=>aM (p.1∈fW)&&(aM (f.names.lookup p.1=ac gu)||aM (f.names.lookup p.1=ac d'))
  |.globalImplicit=>af
  |_=>ai
mutual
noncomputable def b_ (S:gM):bt→c6→Bool
 |.v,_=>ai
 |.h d,e=>uH S d e
 |.f x,_=>oN S x
 |.w _ a b,e=>b_ S a (bA 0 e)&&b_ S b (bA 1 e)
 |.q a,e=>b_ S a (bA 0 e)
 |.k _ a b,e=>b_ S a (bA 0 e)&&b_ S b (bA 1 e)
 |.s _ _ a b c,e=>b_ S a (bA 0 e)&&b_ S b (bA 1 e)&&b_ S c (bA 2 e)
 |.and f,e=>eM S f (eu e)
 |.or f,e=>eM S f (eu e)
 |.l c a b,e=>b_ S c (bA 0 e)&&b_ S a (bA 1 e)&&b_ S b (bA 2 e)
 |.j f,e=>eM S f (eu e)
 |.list f,e=>eM S f (eu e)
 |.y,_=>af
 |.sub a i,e=>b_ S a (bA 0 e)&&b_ S i (bA 1 e)
 |.n a l h,e=>b_ S a (bA 0 e)&&wT S l (bA 0 (bA 1 e))&&wT S h (bA 1 (bA 1 e))
 |.attr a _,e=>pX a&&b_ S a (bA 0 e)
 |.call g f,e=>mq S g&&eM S f (eu e).tail
 |.u a _ f,e=>pX a&&b_ S a (bA 0 (bA 0 e))&&((bA 0 e).pos.endLine==e.pos.line)&&aM (f.length<20)&&eM S f (eu e).tail
 |.comp j t I k,e=>b_ S I (bA 2 e)&&wi S (mG e) t&&b_ (mG e) j (bA 0 e)&&eM (mG e) k ((eu e).drop 3)
noncomputable def eM (S:gM):List bt→List c6→Bool
 |[],_=>af
 |m::r,f=>b_ S m (f.headD fy)&&eM S r f.tail
noncomputable def wT (S:gM):Option bt→c6→Bool
 |.none,_=>af
 |some m,e=>b_ S m e
end
structure s7 (e:c6):Prop where
 a:∀g f,gt (e::g) f=(ai,bO e f)::gt g f
 mark:∀h,behindInMarks h e=ai
 sub:∀o v,subscripted e ai o v=operate [o,v] (m9 o v)
 fold:∀f x,Sw e f x=dm x
theorem Fd {d:aj} {e:c6}:s7 (gZ d e):=by
 unfold gZ;cases(fE e).c with
 |some q=>exact⟨fun _ _=>rfl,fun _=>rfl,fun _ _=>rfl,fun _ _=>rfl⟩
 |none=>induction d using aj.casesOn<;>first|exact⟨fun _ _=>rfl,fun _=>rfl,fun _ _=>rfl,fun _ _=>rfl⟩|(cases(fE e).un<;>exact⟨fun _ _=>rfl,fun _=>rfl,fun _ _=>rfl,fun _ _=>rfl⟩)
theorem hV {S:gM} {m:bt} {e:c6} (h:b_ S m e=af):s7 (bz m e):=by
 induction m using bt.casesOn with
 |v=>exact aR h cp
 |h d=>exact Fd
 |_=>exact⟨fun _ _=>rfl,fun _=>rfl,fun _ _=>rfl,fun _ _=>rfl⟩
section
variable{X:dS} {Z:d1→Prop}
structure bV (b:Bool) (c:dq) (G G':bM) (L:au) (Y:ar) (s:ct):Prop where
 l:bT b G G'
 h:pg G G'
 k:aU c G' L Y s
theorem bV.of {c:dq} {G:bM} {b:Bool} {L:au} {Y:ar} {s:ct} (k:aU c G L Y s):bV b c G G L Y s:=⟨.f,fun _ _ _ f=>f,k⟩
theorem bV.tr {a b:Bool} {c:dq} {G g f:bM} {L L':au} {Y st':ar} {s s':ct} (x:bV a c G g L Y s) (y:bV b c g f L' st' s'):bV (a&&b) c G f L' st' s':=⟨x.l.trans y.l,fun a j i n=>x.h a j i (y.h a j i n),y.k⟩
theorem bV.low {b:Bool} {c:dq} {G g:bM} {L:au} {Y:ar} {s:ct} (x:bV b c G g L Y s):bV ai c G g L Y s:=⟨x.l.low,x.h,x.k⟩
variable(X Z) in
def dr (c:dq) {α β:Type} (b:Bool) (G:bM) (rel:bM→α→β→Prop) (t:au→ar→(α→au→ar→aT)→aT) (p:h8 β):Prop:=
 ∀{L Y s K Q E},aU c G L Y s→aQ X Z (t L Y K)→(∀{d L' st' G' v s'},bV b c G G' L' st' s'→rel G' d v→aQ X Z (K d L' st')→Q v s')→aH (aN aC c.w) c.A p Q E s
variable(wn X Z) in
def b2 (r:gE):Prop:=∀{c m e G},bj wn c→b_ c.sc m e=af→dr X Z c m.simple G a8 (r.e m) (bO (bz m e) c.env)
variable(wn X Z) in
def hI (r:gE):Prop:=∀{c m e G},bj wn c→b_ c.sc m e=af→dr X Z c m.simple G (fun _ a b=>a=b) (r.t m) (lX (bz m e) c.env (bO (bz m e) c.env))
end
theorem mE (e:lr f d=ac x):∃i,d=ae i∧f i=ac x:=by
 induction d using aj.casesOn<;>first|injection e;done|exact⟨_,rfl,e⟩
theorem tv (e:iL f a b=ac x):∃i j,a=ae i∧b=ae j∧f i j=ac x:=
 (mE e).elim fun i h=>(mE h.2).elim fun j g=>⟨i,j,h.1,g.1,g.2⟩
theorem dx [Decidable p] (e:(if p then x else ah)=ac y):p∧x=ac y:=by
 by_cases h:p
 ·rw[aJ h] at e;exact⟨h,e⟩
 ·rw[aL h] at e;injection e
theorem ka (h:n≤b4):n≤sizeLine:=ao h (by refine ak jj ?_;decide)
section
variable{c:dq} {Y:ar}
theorem aU.E (k:aU c G L Y s):mR s.heap G:=fun f a d o t=>eA (k.ok _ _ t) fun p h e r=>by
 subst e;refine⟨h, ?_⟩;induction f<;>exact cF r fun v n e r _=>⟨v,n,e,r⟩
theorem aU.sqv (k:aU c G L Y s) (f:Bool) (h:hg G (kH f ds) v) {g:Prop} (q:∀a vs n,v=am a→G a=ac (.d (kH f ds) (j1 f vs n))→s.heap.get? a=ac (j1 f vs n)→dw G ds vs→vs.length=ds.length→ds.length≤fR→g):g:=by
 refine bK h fun a o e t=>eA (k.ok _ _ t) fun p b d r=> ?_;subst d;have R:∃vs n,p=j1 f vs n∧dw G ds vs∧ds.length≤sizeLine:=by induction f<;>exact r
 obtain⟨vs,n,rfl,r,z⟩:=R;exact q a vs n e t b r r.len z
theorem aU.made (k:aU c G L Y s) (f:o.isFreed=ai) (r:cQ c.w G o d):bV af c G (dt G s.heap.objs.size (.d d o)) L Y {s with heap:=s.heap.push o}∧hg (dt G s.heap.objs.size (.d d o)) d (am s.heap.objs.size):=
 ⟨⟨jX k.B,fun a l x h=>(gk h).elim (fun h=>nomatch h.2) fun h=>h.2,k.new f r⟩,_,_,rfl,hL⟩
theorem IZ (d:s.heap.get? a=ac (j1 f vs k)) (g:s.heap.get? b=ac (j1 f us l)) (hz:vs.length+us.length≤fR)
  (i:vs=[]→Q (am b) s) (j:us=[]→Q (am a) s) (h:Q (am s.heap.objs.size) {s with heap:=s.heap.push (j1 f (vs++us) 0)}):aH (aN aC c.w) c.A (oe b9 (am a) (am b)) Q E s:=by
 have e:vs.toArray++us.toArray=(vs++us).toArray:=xY ..;have z:vs.toArray.size+us.toArray.size≤2^24:=by exact ak d2 (ak d2 hz)
 induction f with
 |false=>
   exact yo ⟨_,d,rfl⟩ ⟨_,g,rfl⟩ noFill_list_add seq_list_add PySem.F.slot_list_add PySem.F.entry_list_add (PySem.F.args_list_add_2 _ _) (list_addW a b vs.toArray us.toArray k l ah ah #[] #[] z) (fg d g ((ak e h)))
 |true=>
  by_cases v:vs=[]
  ·exact yo ⟨_,d,rfl⟩ ⟨_,g,rfl⟩ Eb EE Dr Dp (Do _ _) (tuple_addW0 a b vs.toArray us.toArray k l ah ah #[] #[] (by simp[v])) (fg d g (i v))
  ·by_cases u:us=[]
   ·exact yo ⟨_,d,rfl⟩ ⟨_,g,rfl⟩ Eb EE Dr Dp (Do _ _)
     (tuple_addW1 a b vs.toArray us.toArray k l ah ah #[] #[] (by simpa using v) (by simp[u])) ⟨d,g,j u⟩
   ·refine yo ⟨_,d,rfl⟩ ⟨_,g,rfl⟩ Eb EE Dr Dp (Do _ _)
     (tuple_addW2 a b vs.toArray us.toArray k l ah ah #[] #[] (by simpa using v) (by simpa using u) z) ⟨d,g, ?_⟩
    exact ak e h
theorem Nv (b:List aV) (n:Nat):∀(acc:List aV),(cx n b.toArray).foldl (·++·) acc.toArray=(acc++(cx n b).flatten).toArray:=by
 exact n.rec (fun acc=>aS Em (c8 acc).symm) fun n i=>fun acc=>by rw[Ry,t8,Ry,DZ,xY,i,ef]
theorem oL {n:Nat} (h:n≤16777216):(n:Int)<2^63:=g5.mpr (aD (b3 h) rfl)
theorem p_ {n:Nat} (h:n≤16777216):¬(n:Int)≥2^63:=oa.mpr (oL h)
theorem C_ {i:Int} {n:Nat} (h:0≤i) (q:i<n):i.natAbs<n:=g5.mp (DV (yj (Int.natAbs_of_nonneg h)) q)
theorem K5 (b:s.heap.get? a=ac (d5 vs k)) (f: -1000≤x) (d:x≤1000) (hz:vs.length≤1000)
  (h:Q (am s.heap.objs.size) {s with heap:=s.heap.push (d5 (cx x.toNat vs).flatten 0)}):aH (aN aC c.w) c.A (oe oo (am a) (aq x u)) Q E s:=by
 have m:vs.toArray.size*x.toNat≤2^24:=by
  rw[d2];exact aD (k2 hz (SQ.mpr d)) rfl
 have e:List.foldl (fun X g=>X++g) #[] (cx (if vs.toArray.isEmpty=af then 0 else x.toNat) vs.toArray)=(cx x.toNat vs).flatten.toArray:=by
  exact vs.casesOn (show#[]=_ by rw[show(cx x.toNat ([]:List aV)).flatten=[] from List.flatten_replicate_nil]) fun v r=>Nv (v::r) x.toNat []
 refine wpAny_binaryOp_repeat_ref (by decide) ⟨_,b,rfl⟩ (fun S=>typeIs_int S x u) noFill_list_mul F.fills_int_mul SB repeat_list F.slot_int_index.lookup
  (ob SB (typeIs_int s x u) F.entry_int_rmul (F.args_int_rmul_2 _ _) (int___rmul___int_list x u a vs.toArray k)
   ⟨b,rfl,⟨_,b,rfl⟩,ob F.slot_list_mul ⟨_,b,rfl⟩ F.entry_list_mul (F.args_list_mul_2 _ _)
    (AutoListH.list___mul___list_int_3 a vs.toArray k x u (by simp[T5];exact⟨lQ (by decide) f,DV d (by decide)⟩) (e7 (ao m (by decide))) (by simp[QO,fR];simpa using m))
    ⟨b, ?_⟩⟩)
 exact ak e h
theorem MK {b:Int} (h:b≤1000) (a:ds.length≤1000):(cx b.toNat ds).flatten.length≤sizeLine:=by
 rw[RA,DR,Rd,jj];exact aD (k2 (SQ.mpr h) a) rfl
section
theorem nn (k:aU c G L Y s) (e:iL f a b=ac d) (m:a8 G a V) (n:a8 G b p) (h:∀{l v S},bV af c G l L Y S→a8 l d v→Q v S)
  (g:∀i j t u,f i j=ac d→(∀i,d=ae i→Q (aq i s.toks) {s with toks:=s.toks+1})→aH (aN aC c.w) c.A (oe o (aq i t) (aq j u)) Q E s):aH (aN aC c.w) c.A (oe o V p) Q E s:=by
 refine cF (tv e) fun i j y q e=> ?_;subst y;subst q;obtain⟨t,rfl⟩:=m;obtain⟨u,rfl⟩:=n;exact g i j t u e fun i e=>h (.of (k.tok _)) (e▸⟨_,rfl⟩)
theorem zU (k:aU c G L Y s) (f:Bool) (i:hg G (kH f x) V) (j:hg G (kH f y) p) (Z:(if x.length+y.length≤b4 then ac (kH f (x++y)) else ah)=ac d) (h:∀{g v S},bV af c G g L Y S→hg g d v→Q v S):aH (aN aC c.w) c.A (oe b9 V p) Q E s:=by
 refine(dx Z).elim fun z e=> ?_;injection e with e;subst e;refine k.sqv f i fun a q n e t w r l _=>k.sqv f j fun b u m A T B R C _=> ?_;subst e A;refine IZ w B (by rw[l,C];exact ka z) (fun e=> ?_) (fun e=> ?_) ?_
 ·subst e;cases r;exact h (.of k) ⟨_,_,rfl,T⟩
 ·subst e;cases R;rw[c8] at h;exact h (.of k) ⟨_,_,rfl,t⟩
 ·have m:=k.made (o:=j1 f (q++u) 0) (d:=kH f (x++y)) rfl (by induction f<;>exact⟨_,_,rfl,R.app r,by rw[bi];exact ka z⟩);exact h m.1 m.2
theorem Mz (k:aU c G L Y s) (e:eP b9 a b=ac d) (l:a8 G a V) (m:a8 G b n) (h:∀{g v S},bV af c G g L Y S→a8 g d v→Q v S):aH (aN aC c.w) c.A (oe b9 V n) Q E s:=by
 induction a using aj.casesOn with
 |c x=>induction b using aj.casesOn with
  |c y=>exact zU k ai l m e fun p r=>h p (by cases(dx e).2;exact r)
  |_=>injection e
 |j x=>induction b using aj.casesOn with
  |j y=>exact zU k af l m e fun p r=>h p (by cases(dx e).2;exact r)
  |_=>injection e
 |int i=>exact nn k e l m h fun i o t u e f=>P.add_int (f _ (bD e).symm)
 |_=>injection e
theorem KX (k:aU c G L Y s) (e:eP oo a b=ac d) (p:a8 G a V) (q:a8 G b w) (h:∀{g v S},bV af c G g L Y S→a8 g d v→Q v S):aH (aN aC c.w) c.A (oe oo V w) Q E s:=by
 induction a using aj.casesOn with
 |c x=>
  refine ay (mE e) fun j y e=> ?_;subst y;obtain⟨⟨A,z,Z⟩,e⟩:=dx e;obtain⟨u,rfl⟩:=q;injection e with e;subst e;refine k.sqv ai p fun a B n e t C r l _=> ?_;subst e;have m:=k.made (o:=d5 (cx j.toNat B).flatten 0) (d:=.c (cx j.toNat x).flatten) rfl ⟨_,_,rfl,r.rep _,MK z Z⟩;exact K5 C A z (l▸Z) (h m.1 m.2)
 |int i=>exact nn k e p q h fun i j t u e f=>P.mul_int (f _ (bD (dx e).2).symm) (IntMulOk.of_right (intBits_le_64 (ug (uf (by decide) (dB (dx e).1).1)) (uf (dB (dx e).1).2 (by decide))))
 |_=>injection e
theorem G_ (k:aU c G L Y s) (l:a8 G a V) (m:a8 G b n) (h:∀{g v S},bV af c G g L Y S→a8 g d v→Q v S) (e:eP o a b=ac d):aH (aN aC c.w) c.A (oe o V n) Q E s:=by
 induction o with
 |Add=>exact Mz k e l m h
 |Sub=>exact nn k e l m h fun i j t u e f=>P.sub_int (f _ (bD e).symm)
 |Mult=>exact KX k e l m h
 |Mod=>exact nn k e l m h fun i j t u e f=>mod_int' (SR (dx e).1) (f _ (bD (dx e).2).symm)
 |FloorDiv=>exact nn k e l m h fun i j t u e f=>floordiv_int (SR (dx e).1.1) (f _ (bD (dx e).2).symm) (av (PyProof.noPylong_small (C_ (ug (dx e).1.1) (uf (dx e).1.2 (by decide)))))
 |BitAnd=>exact nn k e l m h fun i j t u e f=>and_int (f _ (bD e).symm)
 |BitOr=>exact nn k e l m h fun i j t u e f=>or_int (f _ (bD e).symm)
 |_=>injection e
end
end
variable{wn:bZ×Nat}
theorem bj.v (o:bj wn c):c.A.units+66<cLine:=by have U:=o.j;unfold pQ;exact cD (.c 1 (.a (.a .b (.m 40 .f)) (.n 40)) (.n 9000) (.g 1 (.a (.a .b (.n 66)) .n1) (.n 9900))) rfl U
theorem wV (h:n+66<k) (a:m≤66):n+m<k:=jg (ci a n) h
theorem sX (p:aj.plain 8 d=af):SeqAt.shaped (il d)=true:=bS.mpr ⟨(o8 8 d p).1,cu (aD (o8 8 d p).2 rfl)⟩
section
variable{c:dq} {Y:ar}
section
theorem yV (o:bj wn c) (k:aU c G L Y s) (f:a8 G a V) (i:a8 G b d) (e:tN a b=ac v):(Q (cC v) s→aH (aN aC c.w) c.A (gr a6 V d) Q E s)∧(Q (cC (!v)) s→aH (aN aC c.w) c.A (gr eG V d) Q E s):=by
 have g:(if aj.plain 8 a&&aj.plain 8 b then ac (aj.beq a b) else ah)=ac v→(Q (cC v) s→aH (aN aC c.w) c.A (gr a6 V d) Q E s)∧(Q (cC (!v)) s→aH (aN aC c.w) c.A (gr eG V d) Q E s):=fun e=>by
  refine(dx e).elim fun p e=> ?_;obtain⟨p,q⟩:=bS.mp p;refine ak (cB (bD e)) ?_;obtain⟨A,r⟩:=o5 k.E 8 _ p _ f;obtain⟨B,R⟩:=o5 k.E 8 _ q _ i;have u:c.A.units+64<cLine:=wV o.v (by decide);have x:=uX 8 a p 8 b q;exact EM (fun h=>eq_dataH r R (sX p) (sX q) u (by refine ak x ?_;exact h)) fun h=>ne_dataH r R (sX p) (sX q) u (by refine ak x ?_;exact h)
 induction a using aj.casesOn with
 |bool x=>
  induction b using aj.casesOn with
  |bool y=>subst f;subst i;injection e with e;subst e;exact⟨eq_bool,ne_bool⟩
  |_=>injection e
 |_=>exact g e
theorem Bk (e:wc a=ac v) (b:a8 G a V):(Q (cC v) s→aH (aN aC c.w) c.A (gr .Is V dj) Q E s)∧(Q (cC (!v)) s→aH (aN aC c.w) c.A (gr pN V dj) Q E s):=by
 have r:v=ai→(∃a,V=am a)→(Q (cC v) s→aH (aN aC c.w) c.A (gr .Is V dj) Q E s)∧(Q (cC (!v)) s→aH (aN aC c.w) c.A (gr pN V dj) Q E s):=fun e z=>z.elim fun a h=>by subst e h;exact⟨is_ref_none,isnot_ref_none⟩
 induction a using aj.casesOn with
 |none=>subst b;injection e with e;subst e;exact⟨is_none_none,isnot_none_none⟩
 |j _=>injection e with e;subst e;exact r rfl (b.imp fun _ h=>h.elim fun _ h=>h.1)
 |c _=>injection e with e;subst e;exact r rfl (b.imp fun _ h=>h.elim fun _ h=>h.1)
 |e _=>injection e with e;subst e;exact r rfl (b.imp fun _ h=>h.elim fun _ h=>h.1)
 |inst _=>injection e with e;subst e;exact r rfl (b.imp fun _ h=>h.1)
 |box _ _=>injection e with e;subst e;exact r rfl (b.2.imp fun _ h=>h.1)
 |_=>injection e
theorem BD (e:iL (o' o) a b=ac v) (d:a8 G a V) (f:a8 G b g) (h:Q (cC v) s):aH (aN aC c.w) c.A (gr o V g) Q E s:=by
 refine cF (tv e) fun i j y k e=> ?_;subst y;subst k;obtain⟨t,rfl⟩:=d;obtain⟨u,rfl⟩:=f;induction o<;>first|(injection e;done)|injection e with e;subst e
 ·exact P.lt_int h
 ·exact P.le_int h
 ·exact P.gt_int h
 ·exact P.ge_int h
theorem He (o:bj wn c) (k:aU c G L Y s) (e:vW p a b=ac v) (d:a8 G a V) (f:a8 G b g) (h:Q (cC v) s):aH (aN aC c.w) c.A (gr p V g) Q E s:=by
 induction p with
 |Eq=>exact(yV o k d f e).1 h
 |NotEq=>obtain⟨u,q,rfl⟩:=dg.mp (e);exact(yV o k d f q).2 h
 |Is=>induction b using aj.casesOn with
  |none=>subst f;exact(Bk e d).1 h
  |_=>injection e
 |IsNot=>induction b using aj.casesOn with
  |none=>subst f;obtain⟨u,q,rfl⟩:=dg.mp (e);exact(Bk q d).2 h
  |_=>injection e
 |_=>exact BD e d f h
theorem sf (e:AQ o a b=ac v) (d:a8 G a V) (f:a8 G b g) (h:Q (cC v) s):aH (aN aC c.w) c.A (gr o V g) Q E s:=by
 induction a using aj.casesOn with
 |str i=>induction b using aj.casesOn with
  |str j=>
   obtain⟨t,rfl⟩:=d;obtain⟨u,rfl⟩:=f;induction o<;>first|(injection e;done)|skip
   injection e with e;subst e;exact PySem.P.le_str h
  |_=>injection e
 |_=>exact BD e d f h
end
theorem dM.d (x:dM R ds vs):vs.isEmpty=ds.isEmpty:=by induction x<;>rfl
theorem sP (k:aU c G L Y s) (e:z9 d=ac b) (D:a8 G d v) (h:∀t,Q b {s with toks:=t}):aH (aN aC c.w) c.A (rB v) Q E s:=by
 induction d using aj.casesOn with
 |none=>subst D;injection e with e;subst e;exact fun _ _ _=>h s.toks
 |bool c=>subst D;injection e with e;subst e;exact rf (h s.toks)
 |int i=>obtain⟨t,rfl⟩:=D;injection e with e;subst e;exact P.truthy_int (h s.toks)
 |str x=>
  obtain⟨t,rfl⟩:=D;obtain⟨f,e⟩:=dx e;have l:(x.length:Int)=(x.cps.size:Int):=rfl;refine P.truthy_str (by rw[l];exact p_ (aD f rfl)) ?_;have g:((x.length:Int)!=0)= !x.cps.isEmpty:=by
   rw[l];unfold Array.isEmpty;rcases DU x.cps.size with e|e
   ·refine ak e ?_;rfl
   ·rw[decide_eq_false (Nat.ne_of_gt e)];exact bne_iff_ne.mpr fun q=>gI 0 (dh q▸e)
  exact ak g (ak (bD e) (h _))
 |j m=>
  injection e with e;subst e;exact k.sqv af D fun a V n e t o r l z=>by
   subst e;exact PySem.W.ktl_truthy o (by rw[d2,l];exact p_ (jj▸z)) (by rw[DH,r.d];exact h _)
 |c m=>
  injection e with e;subst e;exact k.sqv ai D fun a V n e t o r l z=>by
   subst e;exact Sv ⟨_,o,rfl,n,rfl⟩ (by rw[d2,l];exact oL (jj▸z)) (by rw[DH,r.d];exact h _)
 |_=>injection e
end
variable{wn:bZ×Nat}
section
variable{Y:ar}
theorem B9 (h:j9 d=af) (g:ja d=af):False:=by induction d using aj.casesOn<;>first|exact absurd h Bool.false_ne_true|exact absurd g Bool.false_ne_true
theorem rP (K:mR h G) (q:oS G k A):∀x∈A,rV h x.1 x.2.1:=by
 exact q.rec (fun _ h=>nomatch h) fun a _ i=>fun x b=>(eS.mp b).elim (fun e=>e▸bd G K a.2.1) (i x)
theorem nz (k:aU c G L Y s) (F:s.heap.get? a=ac o) (r:cQ c.w G o (.e g)) (e:cT key g=af) (D:a8 G key vk) {P:Prop}
  (M:∀i t A,key=ae i→vk=aq i t→mc G g A→s.heap.DictOf (mI c.w) a A→P) (N:∀x b A,key=x.1→vk=am b→oS G g A→s.heap.DictOfH (gS c.w) a A→rV s.heap x b→P):P:=by
 obtain⟨Q,E⟩:=bS.mp e;obtain⟨z,r⟩:=r;have I:j9 key=af→∀A,mc G g A→s.heap.DictOf (mI c.w) a A→P:=by
  induction key using aj.casesOn with
  |int i=>exact fun _ A q d=>D.elim fun t e=>M i t A rfl e q d
  |_=>exact fun h=>aR h cp
 have T:ja key=af→∀A,oS G g A→s.heap.DictOfH (gS c.w) a A→P:=by
  induction key using aj.casesOn with
  |j R=>exact fun h A q d=>bK (id D) fun b o y t=>N ⟨.j R,Q,h⟩ b A rfl y q d ⟨G,k.E,y▸D⟩
  |_=>exact fun h=>aR h cp
 refine r.elim (fun z=>ay z fun A q d=> ?_) fun z=>ay z fun A q d=> ?_
 ·have d:=d _ _ F;induction g using cn with
  |nil=>
   refine((dK ..).mp E).elim (fun h=>I h A q d) fun h=>T h [] cI ?_;have q:=fs.mp (dM.len q);refine lf d fun m n u v w B _ f S=>sg m n u v w B (?_) (fun _ h=>(nomatch h)) yd;rw[q] at f;generalize n.toList=l at f;cases f;rfl
  |cons p r=>
   have C:j9 p.1=true:=ay (dM.get q (k:=0) rfl) fun _ _ h=>by refine ak h.1 ?_;rfl
   exact I (((dK ..).mp E).elim (fun h=>(bS.mp h).2) fun h=>(B9 C (bS.mp h).1).elim) A q d
 ·have d:=d _ _ F (rP k.E q);induction g using cn with
  |nil=>
   refine((dK ..).mp E).elim (fun h=>I h [] cI ?_) fun h=>T h A q d;have q:=fs.mp (dM.len q);refine lf d fun m n u v w B f _ S=> ?_;rw[q] at f;have f:=Array.toList_eq_nil_iff.mp f;subst f;exact⟨m,_,u,v,w,B,fun _ h=>aR h (DJ _),.nil,yd⟩
  |cons p r=>
   have C:ja p.1=true:=ay (dM.get q (k:=0) rfl) fun x _ h=>by exact ak h.1 x.1.2.2
   exact T (((dK ..).mp E).elim (fun h=>(B9 (bS.mp h).1 C).elim) fun h=>(bS.mp h).2) A q d
theorem bj.rm (o:bj wn c):c.A.in1.units+10<cLine:=by rw[ev];exact wV o.v (by decide)
theorem Iy (P:bY):((cO P).get? yx).isSome=true:=by kernel_rfl
theorem aU.nmod (k:aU c G L Y s) (h:∀o,G a≠ac (.a o)):(a==yx)=false:=c5.mpr (by
 rintro rfl;obtain⟨o,e⟩:=mW.mp (Iy c.w.params);refine h o (k.base _ _ trivial ?_);unfold d8;refine ak e ?_;rfl)
theorem Jz (l:bj wn c) (k:aU c G L Y s) (n:∀o,G a≠ac (.a o)) {Q:aV→ct→Prop} (m:s.heap.get? a=ac o) (r:cQ c.w G o (.e j)) (e:cT key j=af) (D:a8 G key vk)
  (q:∀t,Q (cC (dA key j)) {s with toks:=t}):aH (aN aC c.w) c.A (gr c7 vk (am a)) Q E s:=nz k m r e D
 (fun i t A f g h d=>by subst f g;exact wpAny_in_of (uq aC c.w i t) (k.nmod n) d.mapOf (by refine ak (show(valueAt A i).isSome=_ from(h.has ql i).symm) ?_;exact q _))
 fun x b A f g h d i=>by subst f g;exact wpAny_in_heap l.rm i (k.nmod n) d (by refine ak (show(om A x).isSome=_ from(h.has ma x).symm) ?_;exact q _)
theorem Ft (p:bj wn c) (k:aU c G L Y s) {vk:aV} (u:s.heap.get? a=ac o) (r:cQ c.w G o (.e l)) (e:cT key l=af) (w:a8 G key vk)
  (n:f3 key l=ac d) (q:∀v t,a8 G d v→Q v {s with toks:=t}):aH (aN aC c.w) c.A (m9 (am a) vk) Q E s:=nz k u r e w
 (fun i t A f j h m=>by
  subst f j;rcases h.get ql i with⟨h,_⟩|⟨y,v,h,g,D⟩<;>have h:=n▸h<;>cases h;exact wpAny_getItem_of (intKind_is aC c.w i t) m.mapOf g (q _ _ D))
 fun x b A f j h m i=>by
  subst f j;rcases h.get ma x with⟨h,_⟩|⟨y,v,h,g,D⟩<;>have h:=n▸h<;>cases h;exact wpAny_getItem_heap p.rm i m g (q _ _ D.2)
theorem JK (k v:aj):∀s:List (aj×aj),(gd k v s).length≤s.length+1:=by
 intro s;induction s with
 |nil=>exact bv _
 |cons X r i=>
  obtain⟨x,w⟩:=X;refine(?_:(if aj.beq x k=af then(x,v)::r else(x,w)::gd k v r).length≤_)
  split
  ·exact fQ _
  ·exact b3 (i)
theorem Is (k:aj):∀s:List (aj×aj),(hR k s).length≤s.length:=by
 intro s;induction s with
 |nil=>exact bv _
 |cons X r i=>
  obtain⟨x,w⟩:=X;refine(?_:(if aj.beq x k=af then r else(x,w)::hR k r).length≤_)
  split
  ·exact fQ _
  ·exact b3 (i)
theorem BS [DecidableEq a]:∀{l:List (a×β)},(l.any fun x=>aM (x.1=k))=af↔k∈l.map (·.1):=by
 intro l;rw[t4,cr];exact⟨fun z=>ay z fun x h e=>bd x h (dB e),fun z=>ay z fun x h e=>bd x h (cu e)⟩
theorem Ia (P:bj wn c) (k:aU c G L Y s) {vk:aV} (R:s.heap.get? a=ac o) (r:cQ c.w G o (.e j)) (e:cT key j=af) (C:a8 G key vk)
  (hz:j.length≤b4) (D:a8 G d v) (q:∀h' t f,hC a s.heap h'→h'.get? a=ac f→cQ c.w G f (.e (gd key d j))→Q () {s with heap:=h',toks:=t}):aH (aN aC c.w) c.A (setItem (am a) vk v) Q E s:=by
 have l:(gd key d j).length≤sizeLine:=ao (JK ..) (ao (b3 hz) (by refine ak jj ?_;decide));refine nz k R r e C (fun i t A F I h m=> ?_) fun x b A F I h m i=> ?_<;>subst F I
 ·refine wpAny_setItem_pairs (uq aC c.w i t) m (fun h' M u=> ?_) (by refine ak h.len ?_;exact r.1);refine lf m fun _ _ _ _ _ _ _ _ n=>hQ M fun f w p y B=>q h' _ f u y ⟨l,av (bd _ (?_) (fun h a e=>iT f w p e B))⟩;show mc G _ (if A.any (fun S=>aM (S.1=i))=af then _ else _)
  split
  ·rename_i g;exact yO ql h (fun _ _ _=>⟨rfl,D⟩) n (BS.mp g)
  ·rename_i g;exact BA ql D h fun z=>g (BS.mpr z)
 ·refine wpAny_setItem_heap P.rm i m (fun h' M u=> ?_) (by refine ak h.len ?_;exact r.1);refine lf m fun _ _ _ _ _ _ _ _ n=>lf M fun f w p y B T U _ V=>q h' _ f u y ⟨l,aI (bd _ (?_) (fun h a e i=>sg f w p e B T U i V))⟩;show oS G _ (if(om A x).isSome=af then _ else _)
  have N:(om A x).isSome=af↔x∈A.map (·.1):=by unfold om;exact ak Option.isSome_map HX
  split
  ·rename_i g;exact yO ma h (fun _ _ h=>fg rfl h.1 D) n (N.mp g)
  ·rename_i g;exact BA ma ⟨C,D⟩ h fun z=>g (N.mpr z)
end
def jp (w:bZ) (G:bM) (h:fT) (v:aV) (q:fN):Prop:=match q with
 |.str x=>∃t,v=ba x t
 |.j d=>hg G (.j d) v
 |.c d=>∃a o,v=am a∧h.get? a=ac o∧(∀p,G a≠ac (.a p))∧cQ w G o (.c d)
 |.e k=>∃a o,v=am a∧h.get? a=ac o∧(∀p,G a≠ac (.a p))∧cQ w G o (.e k)
def lx (G:bM) (q:ny) (v:aV):Prop:=match q with
 |.slot x=>∃a l,v=am a∧G a=ac (bQ l x)
 |.sq d=>a8 G d v∨∃j x a,d=da j x∧v=am a∧G a=ac (cJ j x)
theorem lx.of (h:a8 G d v):lx G (dI d) v:=av h
theorem lx.bx (h:lx G (dI (da j x)) v):∃a,v=am a∧G a=ac (cJ j x):=h.elim (fun h=>h.2) fun z=>hQ z fun _ _ a e h=>by injection e with a b;subst a;subst b;exact⟨a,h⟩
section
variable{c:dq} {Y:ar}
theorem AW {p:b0} (b:G a=ac t) (n:∀q,t≠.a q) (d:h.get? a=ac o) (r:cQ w G o p.frz):jp w G h (am a) p.sq:=by
 have n:∀q,G a≠ac (.a q):=fun q e=>by rw[b] at e;exact n q (bD e)
 induction p<;>exact hK a o rfl d n r
theorem NM (e:dW j x Y=ac p):ie j x Y=ac (b1 p):=by
 unfold dW at e;induction h:ie j x Y with
 |none=>rw[h] at e;injection e
 |some a=>rw[h] at e;induction a<;>cases e;rfl
theorem aU.box (k:aU c G L Y s) (t:G a=ac (cJ j x)) (e:dW j x Y=ac p):fo Y j x=ac (b1 p)∧∃o,s.heap.get? a=ac o∧cQ c.w G o p.frz:=by
 have e:=(zF (NM e)).2;obtain⟨o,b,q,h,r⟩:=k.ok _ _ t;have h:=e▸h;cases h;exact⟨e,o,b,r⟩
theorem aU.sq (k:aU c G L Y s) (C:lx G (dI d) v) (e:d.sq Y=ac q):jp c.w G s.heap v q:=by
 have D:∀{d},hg G d v→∃a o,v=am a∧s.heap.get? a=ac o∧(∀p,G a≠ac (.a p))∧cQ c.w G o d:=fun z=>bK z fun a o e t=>by
  refine eA (k.ok _ _ t) fun p f l r=> ?_;exact hK a p e f ((fun q h=>by have h:=t▸h;cases h)) r
 have N:(∀b x,d≠da b x)→a8 G d v:=fun n=>C.elim id fun z=>hQ z fun b x _ e _=>aR e (n b x);induction d using aj.casesOn with
 |j g=>injection e with e;subst e;exact N nofun
 |c g=>injection e with e;subst e;exact D (N nofun)
 |e g=>injection e with e;subst e;exact D (N nofun)
 |str x=>injection e with e;subst e;exact N nofun
 |box b x=>
  refine ay C.bx fun a y t=> ?_;subst y;refine ay (dg.mp e) fun p f i=> ?_;subst i;exact(k.box t f).2.elim fun o h=>AW t (fun _ h=>(by injection h)) h.1 h.2
 |_=>injection e
theorem sm {S:fN} (k:aU c G L Y s) (C:lx G q v) (p:bV b c G n r w B) (D:q.box=af→b=af) (e:q.now r w=ac S):jp c.w n B.heap v S:=by
 induction q with
 |slot x=>
  refine bK C fun a l y t=> ?_;subst y;refine ay (dg.mp (e)) fun z i y=> ?_;subst y;obtain⟨f,E⟩:=np i;refine ay (p.k.peek E) fun A _ T=> ?_;have u:=p.h _ _ _ T;obtain⟨_,_,Z,F,_⟩:=k.ok _ _ t;obtain⟨_,_,m,g,_⟩:=k.ok _ _ u;rw[F] at g;obtain⟨rfl,_⟩:=kB (bD g);have:=k.solo _ _ (bQ l x) trivial t u;subst this;exact(p.k.slAt T i).2.elim fun o h=>AW T (fun _ h=>(by injection h)) h.1 h.2
 |sq d=>exact p.k.sq (C.imp (a8.mono p.l.ld) fun z=>z.elim fun j Z=>Z.elim fun x m=>m.elim fun a I=>I.elim fun e h=>mT j x a e h.1 (p.l a _ (av (D (e▸rfl))) h.2)) e
theorem si (h:i2 i n=ac j) (hz:n≤fR):ES i n=ac j∧-(2^63)≤i∧i<2^63∧((0≤i∧i.toNat=j)∨(i<0∧-(n:Int)≤i∧(i+n).toNat=j)):=by
 rw[jj] at hz;unfold i2 at h;unfold ES;by_cases a:0≤i
 ·rw[aJ a] at h;obtain⟨b,e⟩:=dx h;injection e with e;subst e;have:=hD.mpr a;refine nf (?_) (lQ (by decide) a) (uf b (oL hz)) (av ⟨a,rfl⟩);simp only[this,if_false];exact aJ (by simp;exact⟨a,b⟩)
 ·rw[aL a] at h;obtain⟨b,e⟩:=dx h;injection e with e;subst e;have:=oa.mp a;have d: -(n:Int)≤i:=Int.zero_sub n▸xS b;refine nf (?_) (lQ (Sp (ug (oL hz))) d) (uf this (by decide)) (aI ⟨this,d,rfl⟩);simp only[this,if_true];exact aJ (by simp;exact⟨b,RW (RF this n) (yj (EA _))⟩)
theorem Cu (k:aU c G L Y s) {S:fN} (q:jp c.w G s.heap v S):∃T i,s.TypeIs v T∧typeLookup (bn T) "__getitem__"=dm (ac (bJ i)):=by
 induction S with
 |c D=>obtain⟨a,o,rfl,b,_,V,n,rfl,_⟩:=q;exact⟨"list",_,(bd _ b rfl),slot_list_getitem.lookup⟩
 |j D=>exact k.sqv af q fun a V n E t b r l z=>⟨"tuple",_,E▸(bd _ b rfl),D5.lookup⟩
 |e f=>
  refine C2 q fun a o y b _ _ r=> ?_;subst y;refine cN ("dict") _ (⟨o,b, ?_⟩) slot_dict_getitem.lookup;rcases r with⟨A,q,d⟩|⟨A,q,d⟩
  ·refine jS (d _ _ b) fun _ _ _ h E _=> ?_;rw[b] at h;injection h with h;subst h;exact E.1
  ·refine jS (d _ _ b (rP k.E q)) fun _ _ _ h E _=> ?_;rw[b] at h;injection h with h;subst h;exact E.1
 |str x=>obtain⟨t,rfl⟩:=q;exact cN ("str") _ (typeIs_str _ _ _) PySem.F.slot_str_getitem.lookup
theorem J_ (U:bj w c) (k:aU c G L Y s) {S:fN} (q:jp c.w G s.heap v S) (D:a8 G i W) (e:ez S i=ac d) (h:∀u t,a8 G d u→Q u {s with toks:=t}):aH (aN aC c.w) c.A (m9 v W) Q E s:=by
 induction S with
 |c X=>
  obtain⟨a,o,rfl,b,_,V,n,rfl,r,z⟩:=q;obtain⟨i,rfl,e⟩:=mE e;obtain⟨t,rfl⟩:=D;refine ay (jG.mp e) fun M m e=>ay (r.get e) fun u A p=> ?_;refine iD (si m z) fun _ f F Z=> ?_;have N:=(pn ..).trans A;have l:s.heap.IsList a V.toArray:=⟨_,b,rfl,n,rfl⟩;have R:=(d2 ..).trans r.len;rcases Z with⟨g,B⟩|⟨g,B,α⟩
  ·exact wpAny_getItem_list l g F (by refine ak B ?_;exact N) (h u s.toks p)
  ·exact wpAny_getItem_list_neg l g (by refine ak R ?_;exact B) f (by refine ak R ?_;refine ak α ?_;exact N) (h u s.toks p)
 |j X=>
  refine k.sqv af q fun a V n β T b r l z=> ?_;subst β;refine ay (mE e) fun i C e=> ?_;subst C;obtain⟨t,rfl⟩:=D;refine ay (jG.mp e) fun M m e=>ay (r.get e) fun u A p=> ?_;refine iD (si m z) fun I f F _=> ?_;exact T8 ⟨_,b,rfl,n,rfl⟩ f F (by refine ak d2 (ak l ?_);exact I) ((pn ..).trans A) (h u s.toks p)
 |e ζ=>
  obtain⟨a,o,rfl,b,_,r⟩:=q;obtain⟨γ,e⟩:=dx e;exact Ft U k b r γ D e h
 |str x=>
  obtain⟨t,rfl⟩:=q;obtain⟨z,e⟩:=dx e;refine ay (mE e) fun i C e=> ?_;subst C;obtain⟨u,rfl⟩:=D;refine ay (jG.mp e) fun M m e=>ay (dg.mp e) fun y δ ε=> ?_;subst ε;refine iD (si m (ka z)) fun I f F _=>P.getItem_str ?_ ?_ (h _ _ ⟨_,rfl⟩)
  ·rw[DI,decide_eq_false_iff_not,decide_eq_false_iff_not];exact⟨hD.mpr f,oa.mpr F⟩
  ·refine((ak I ?_):(ES i x.cps.size).bind (x.cps[·]?)=ac y);exact δ
theorem IX (I:bj w c) (k:aU c G L Y s) {S:fN} (q:jp c.w G s.heap v S) (M:a8 G d N) (e:cZ d S=ac b) (h:∀t,Q (cC b) {s with toks:=t}):aH (aN aC c.w) c.A (gr c7 N v) Q E s:=by
 have R:∀(f:Bool) {D:List aj} {a:bp} {V:List aV} {n:Nat},v=am a→s.heap.get? a=ac (j1 f V n)→dw G D V→(if aj.plain 8 d&&D.all (aj.plain 8) then ac (D.any fun x=>aj.beq x d) else ah)=ac b→aH (aN aC c.w) c.A (gr c7 N v) Q E s:=by
  intro f D a V n W g r e;subst W;obtain⟨p,e⟩:=dx e;obtain⟨P,z⟩:=bS.mp p;have C:∀x∈D,aj.plain 8 x=af∧_:=fun x m=>⟨cH.mp z x m,o5 k.E 8 x (cH.mp z x m)⟩;obtain⟨A,i⟩:=xk r C;obtain⟨B,T⟩:=o5 k.E 8 _ P _ M;have U:=wj fun x m=>⟨(C x m).1,o8 8 x (C x m).1⟩;have l:=o8 8 d P;have u:c.A.units+1+hF (RO (nO D)) (il d).depth<cLine:=by
   rw[ev];exact wV I.v (aD (ci (ao (nY ..) l.2) 1) rfl)
  have F:=h s.toks;rw[←bD e,←LX P z] at F;induction f with
  |false=>exact SeqAt.in_list_reads (reads_list_at g rfl rfl i) T U.1 l.1 u F
  |true=>exact SeqAt.in_tuple_reads (reads_tuple_at g rfl rfl i) T U.1 l.1 u F
 induction S with
 |c D=>obtain⟨a,o,i,g,_,V,n,rfl,r,_⟩:=q;exact R ai i g r e
 |j D=>exact k.sqv af q fun a V n i t g r _ _=>R af i g r e
 |e Z=>
  refine ii q fun a o y g n r=> ?_;subst y;obtain⟨X,e⟩:=dx e;exact Jz I k n g r X M fun t=>bD e▸h t
 |str x=>injection e
theorem PW (n:aH (aN aC c.w) c.A (gr c7 v u) (fun u S=>u=cC b∧Q (cC (!b)) S) E s):aH (aN aC c.w) c.A (gr m' v u) Q E s:=by
 show aH _ _ (do return cC (!(←contains u v))) Q E s;have e:aH (aN aC c.w) c.A (contains u v>>=fun b=>(dm (cC b):h8 aV)) (fun u S=>u=cC b∧Q (cC (!b)) S) E s:=n;intro a p d;have:=e a p d;simp only[Sem.wp_bind',Sem.wp_pure'] at this⊢;exact Sem.wp_mono (aN aC c.w) a _ (fun B P g h=>by cases h.1;exact h.2) (fun _ _ _ f=>f) _ _ this
end
theorem Aa (k n:Nat):(uo k+n).toNat=n-(k+1):=(aS Int.toNat (SS ..)).trans (rq n (k+1))
theorem F2 (k n:Nat):hF (k:Int) n=(hF k n:Nat):=(Ey k n).elim (fun h=>(Int.min_eq_left (gq.mpr h)).trans (aS _ (t9 h).symm)) fun h=>(Int.min_eq_right (gq.mpr h)).trans (aS _ (x9 h).symm)
theorem u7 (k n:Nat):fz (ac (uo k)) n=n-(k+1):=aJ (t:=n-(-(uo k)).toNat) (e:=hF (uo k).toNat n) (DQ k)
theorem rR (k n:Nat):fz (ac (k:Int)) n=hF k n:=aL (t:=n-(-(k:Int)).toNat) (e:=hF (k:Int).toNat n) (hD.mpr (gG k))
theorem Bb (i:Int) (n:Nat):lH i n=fz (ac i) n:=by
 exact i.casesOn (fun k=>(aJ (gG k)).trans (rR k n).symm) fun k=>(aL (oa.mpr (DQ k))).trans ((Aa k n).trans (u7 k n).symm)
theorem Dh (i:Int) (n:Nat):(if i<0 then max (i+n) 0 else hF i n:Int)=(fz (ac i) n:Nat):=by
 exact i.casesOn (fun k=>(aL (hD.mpr (gG k))).trans ((F2 k n).trans (aS _ (rR k n).symm))) fun k=>(aJ (DQ k)).trans ((Int.ofNat_toNat _).symm.trans (aS _ ((Aa k n).trans (u7 k n).symm)))
theorem w0 (v:Option Int) (n:Nat):lY v n≤n:=by
 induction v with
 |none=>exact bv _
 |some i=>induction i using Int.casesOn with
  |ofNat k=>exact ao (a9 (rR k n)) (nY k n)
  |negSucc k=>exact ao (a9 (u7 k n)) (it n (k+1))
theorem nr (l:List a) (lo h:Option Int):dH l lo h=(l.drop (fz lo l.length)).take (lY h l.length-fz lo l.length):=by
 rw[←List.drop_take];unfold dH;cases lo<;>cases h<;>dsimp only<;>(try rw[Bb])<;>(try rw[Bb])<;>rfl
theorem u_ (l:List a) (lo h:Option Int):(dH l lo h).length≤l.length:=by
 rw[nr,nX,rg];exact ao (nY ..) (it ..)
theorem Ni (lo h:Option Int) (n:Nat):QM lo h 1 (n:Int)=(((fz lo n:Nat):Int),((lY h n:Nat):Int)):=by
 refine ur ?_ ?_
 ·exact lo.rec rfl fun x=>Dh x n
 ·exact h.rec rfl fun x=>Dh x n
theorem Qb (a b:Nat):Dl (a:Int) (b:Int) 1=b-a:=by
 show(if(a:Int)<b then((b:Int)-a-1)/1+1 else 0).toNat=b-a
 by_cases h:a<b
 ·rw[aJ (g5.mpr h),Int.ediv_one,Int.sub_add_cancel];exact rq b a
 ·rw[aL fun n=>h (g5.mp n)];exact(tV (dC h)).symm
theorem Qz (l:List b):a+n≤l.length→((cv n).map (a+·)).filterMap (l[·]?)=(l.drop a).take n:=by
 induction n with
 |zero=>intro _;rfl
 |succ n i=>
  intro h;rw[x_,cm,List.filterMap_append,i (gJ h),RS,RM];simp[cS (show a+n<l.length from h)]
theorem Bp (l:List b) (lo i:Option Int):((cv (lY i l.length-fz lo l.length)).map (fz lo l.length+·)).filterMap (l[·]?)=dH l lo i:=by
 rw[nr];have a:=w0 i l.length;by_cases h:fz lo l.length≤lY i l.length
 ·exact Qz l (by rw[ra h];exact a)
 ·rw[tV (gJ (f' h))];rfl
theorem vw {lo:Option Int} (h:lY i l.length-fz lo l.length=l.length):dH l lo i=l:=by
 rw[nr,h];have b:=w0 i l.length;cases l with
 |nil=>simp
 |cons a r=>
  have d:fz lo (a::r).length=0:=(DU _).resolve_right fun p=>gI _ (ft (jg (a9 h.symm) (Nat.sub_lt (ft (m3 r.length) (ao (a9 h.symm) (it ..))) p)) b);rw[d,List.drop_zero,D1]
section
variable{c:dq} {Y:ar}
theorem KJ {lo:Option Int} {Q:Int×Int×Nat→ct→Prop} (d:s.heap.IsSliceOf sl V u dj) (l:i0 V lo) (e:i0 u i)
  (h:Q (((fz lo n:Nat):Int),1,lY i n-fz lo n) s):aH (aN aC c.w) A (QK (am sl) (dm (n:Int))) Q E s:=by
 obtain⟨o,a,f,b⟩:=id d;have P:∀{v:aV} {p:Option Int} {R:Option Int→ct→Prop},i0 v p→R p s→aH (aN aC c.w) A (Tl v) R E s:=by
  intro v p R q r;cases q with
  |none=>exact slicePart_none r
  |int=>exact slicePart_int r
 unfold QK Tn;refine aG (aG (rx a b (x:=V) rfl (aG (rx a b (x:=u) rfl (aG (rx a b (x:=dj) rfl (bo (aG (slicePart_none ?_)))))))));show aH _ _ (if((1:Int)==0)=af then _ else _) _ _ s
 rw[aL (by decide)];refine aG (P l (aG (P e (aG (bo ?_)))));show aH _ _ (match QM lo i 1 (n:Int) with|(lo,i)=>dm (lo,(1:Int),Dl lo i 1)) _ _ s
 rw[Ni];show aH _ _ (dm (((fz lo n:Nat):Int),(1:Int),Dl _ _ 1)) _ _ s;rw[Qb];exact bo h
theorem L_ {lo:Option Int} (f:s.heap.get? t=ac (la vs k)) (e:s.heap.IsSliceOf sl v V dj) (p:i0 v lo) (P:i0 V i) (hz:vs.length≤fR)
  (b:dH vs lo i=vs→Q (am t) s) (h:Q (am s.heap.objs.size) {s with heap:=s.heap.push (la (dH vs lo i) 0)}):aH (aN aC c.w) c.A (m9 (am t) (am sl)) Q E s:=by
 have T:IsTup s.heap t vs.toArray:=⟨_,f,rfl,k,rfl⟩;have a:sizeOk (op (dH vs lo i).toArray):=by
  show(dH vs lo i).toArray.size≤fR;rw[d2];exact ao (u_ _ _ _) hz
 obtain⟨o,g,l,r⟩:=id e;have n:s.TypeIs (am sl) "slice":=⟨o,g,l⟩;unfold m9
 try with_reducible refine eF ?_
 first|refine wpAny_bind (wpAny_pure ?_)|skip
 refine wpAny_bind (wpAny_sequenceKey T.typeIs (by decide) ?_)
 refine wpAny_bind (wpAny_callSpecial?_slot (name:=Str.ofString "__getitem__") T.typeIs slot_tuple_getitem
  (wpAny_call_entry slot_tuple_getitem T.typeIs entry_tuple_getitem ?_ (args_tuple_getitem _ _)))
 show wpAny _ _ (Builtin.Tuple.tupleItemsOf (.ref t)>>=_) _ _ s;refine wpAny_bind (tupleItemsOf_ T (wpAny_bind (wpAny_typeOf n ?_)));rw[if_pos (by decide)];refine wpAny_bind (KJ e p P ?_);rw[List.size_toArray];have q:((List.range (kms_hi i vs.length-kms_lo lo vs.length)).filterMap fun(j:Nat)=>vs.toArray[(((kms_lo lo vs.length:Nat):Int)+(j:Int)*1).toNat]?).toArray=(dH vs lo i).toArray:=by
  rw[←Bp,List.filterMap_map];refine congrArg List.toArray (congrArg (List.filterMap · _) (funext fun j=> ?_));rw[show(((kms_lo lo vs.length:Nat):Int)+(j:Int)*1).toNat=kms_lo lo vs.length+j from congrArg (kms_lo lo vs.length+·) (Nat.mul_one j)];exact List.getElem?_toArray ..
 show wpAny _ _ (if(((kms_lo lo vs.length:Nat):Int)==0&&(1:Int)==1&&(kms_hi i vs.length-kms_lo lo vs.length)==vs.length)=true then _ else _) _ _ s
 split
 ·rename_i w;have d:dH vs lo i=vs:=vw (eq_of_beq (Bool.and_eq_true_iff.mp w).2);unfold Builtin.Tuple.tupleIsExact;refine wpAny_bind (wpAny_bind (wpAny_typeOf T.typeIs (wpAny_pure ?_)));rw[if_pos (by decide)]
  first
   |exact wpAny_bind (wpAny_rule (wpAny_pure ⟨_,rfl,wpAny_pure (b d)⟩))
   |exact wpAny_rule (wpAny_bind (wpAny_pure (wpAny_pure ⟨_,rfl,wpAny_pure (b d)⟩)))
   |exact wpAny_bind (wpAny_rule (wpAny_bind (wpAny_pure (wpAny_pure ⟨_,rfl,wpAny_pure (b d)⟩))))
 ·rw[q]
  first
   |exact wpAny_bind (m:=Builtin.Tuple.tupleExact _) (wpAny_newObj_type (wpAny_pure ⟨_,rfl,wpAny_pure h⟩) a)
   |exact wpAny_bind (m:=Builtin.Tuple.tupleExact _) (wpAny_newObj_type (wpAny_bind (wpAny_pure (wpAny_pure ⟨_,rfl,wpAny_pure h⟩))) a)
   |exact wpAny_bind (wpAny_bind (m:=Builtin.Tuple.tupleExact _) (wpAny_newObj_type (wpAny_pure (wpAny_pure ⟨_,rfl,wpAny_pure h⟩)) a))
   |exact wpAny_bind (wpAny_bind (m:=Builtin.Tuple.tupleExact _) (wpAny_newObj_type (wpAny_pure ⟨_,rfl,wpAny_pure h⟩) a))
theorem Hp (x:br) (lo h:Option Int):yu x lo h=⟨(dH x.cps.toList lo h).toArray⟩:=by
 have a:x.length=x.cps.toList.length:=(q9 ..).symm;have e:QL lo h 1 x.length=(cv (lY h x.length-fz lo x.length)).map (fz lo x.length+·):=by
  rw[show QL lo h 1 x.length=sliceRange (EL lo h ah x.length).1 (EL lo h ah x.length).2.1 1 by cases lo<;>cases h<;>rfl,kms_bounds,sliceRange_one]
 unfold yu;rw[e];split
 ·rename_i w;simp only[fu,dL,aB,gm] at w;rw[vw (l:=x.cps.toList) (by rw[←a];simpa using w.2)]
 ·refine aS (fun l:List _=>(⟨l.toArray⟩:br)) ?_;rw[←Bp,←a];exact aS (Sj · _) (funext fun j=>by simp)
theorem zg (h:i0 v p):∃l:Option (Int×Tok),v=partValue l∧l.map (·.1)=p:=by
 cases h with
 |none=>exact⟨ah,rfl,rfl⟩
 |int i t=>exact⟨ac (i,t),rfl,rfl⟩
section
variable{lo:Option Int}
theorem C1 (r:dw G ds vs):dw G (dH ds lo h) (dH vs lo h):=by rw[nr,nr,r.len];exact(r.drop _).take _
theorem Lj (k:aU c G L Y s) (q:jp c.w G s.heap v (.c ds)) (b:s.heap.IsSliceOf sl l u dj) (p:i0 l lo) (P:i0 u i)
  (h:∀{g v S},bV af c G g L Y S→a8 g (.c (dH ds lo i)) v→Q v S):aH (aN aC c.w) c.A (m9 v (am sl)) Q E s:=by
 obtain⟨a,o,e,f,_,V,m,j,r,z⟩:=q;subst e j;refine wpAny_getItem_list_slice (items:=V.toArray) ⟨_,f,rfl,m,rfl⟩ b p P rE nofun ?_ (by rw[d2,r.len];exact z);rw[show slicePick V.toArray lo i ah=(dH V lo i).toArray by rw[kms_pick_eq,nr];rfl];exact(k.made (o:=d5 (dH V lo i) 0) (d:=.c (dH ds lo i)) rfl ⟨_,_,rfl,C1 r,ao (u_ ..) z⟩).elim h
theorem Jl (k:aU c G L Y s) (q:hg G (.j ds) v) (b:s.heap.IsSliceOf sl V u dj) (p:i0 V lo) (P:i0 u i)
  (h:∀{g v S},bV af c G g L Y S→a8 g (.j (dH ds lo i)) v→Q v S):aH (aN aC c.w) c.A (m9 v (am sl)) Q E s:=
 k.sqv af q fun a f n e t j r l z=>e▸L_ j b p P (l▸z) (fun m=>h (.of k) ((show dH ds lo i=ds by
  have:=aS gK m;rw[nr,nX,rg,l] at this;exact vw (e8 (ao (it ..) (w0 i ds.length)) (ao (a9 this.symm) (yb ..)))).symm▸⟨_,_,rfl,t⟩)) ((k.made (o:=la (dH f lo i) 0) (d:=.j (dH ds lo i)) rfl ⟨_,_,rfl,C1 r,ao (u_ ..) z⟩).elim h)
theorem FK (k:aU c G L Y s) (hz:x.length≤b4) (b:s.heap.IsSliceOf sl V d dj) (p:i0 V lo) (P:i0 d i)
  (h:∀{g v S},bV af c G g L Y S→a8 g (bP ⟨(dH x.cps.toList lo i).toArray⟩) v→Q v S):aH (aN aC c.w) c.A (m9 (ba x t) (am sl)) Q E s:=
 (zg p).elim fun l e=>(zg P).elim fun u a=>by
  have y:(yu x (l.map (·.1)) (u.map (·.1))).length≤fR∧∀T m,Q (ba (yu x (l.map (·.1)) (u.map (·.1))) T) {s with toks:=m}:=⟨ao (Txt.slice_le x _ _) (ka hz),fun T m=>by rw[e.2,a.2,Hp];exact h (.of (k.tok _)) ⟨_,rfl⟩⟩;exact wpAny_getItem_str_slice (l:=l) (u:=u) (st:=ah) (b.imp fun o q=>⟨q.1,q.2.1,by rw[q.2.2,e.1,a.1];rfl⟩) rfl (post_val_or_str y)
theorem Kh (k:aU c G L Y s) {S:fN} (q:jp c.w G s.heap v S) (a:s.heap.IsSliceOf sl V u dj) (p:i0 V lo) (P:i0 u i) (e:f9 lo i S=ac d)
  (h:∀{g v b},bV af c G g L Y b→a8 g d v→Q v b):aH (aN aC c.w) c.A (m9 v (am sl)) Q E s:=by
 induction S with
 |c D=>have e:=bD e;subst e;exact Lj k q a p P @h
 |j D=>have e:=bD e;subst e;exact Jl k q a p P @h
 |e l=>exact nomatch e
 |str x=>
  have e:=dx e;have f:=bD e.2;subst f;exact q.elim fun t q=>q▸FK k e.1 a p P @h
end
end
theorem Bz:∀(l:List Int),(nB l).Perm l∧(nB l).Pairwise (·≤·):=by
 intro l;induction l with
 |nil=>exact⟨rC _,h7⟩
 |cons a r I=>
  obtain⟨g,j⟩:=I;have s:∀(l:List Int),l.Pairwise (·≤·)→(mM a l).Perm (a::l)∧(mM a l).Pairwise (·≤·):=by
   intro l;induction l with
   |nil=>intro _;exact⟨rC _,Q_ _ _⟩
   |cons b t I=>
    intro p;obtain⟨P,k⟩:=pr.mp p;show(if a≤b then a::b::t else b::mM a t).Perm _∧(if a≤b then a::b::t else b::mM a t).Pairwise _
    by_cases h:a≤b
    ·exact ak (aJ h) (⟨rC _,pr.mpr ⟨fun x d=>(eS.mp d).elim (fun e=>e▸h) fun d=>lQ h (P x d),p⟩⟩)
    ·refine ak (aL h) ?_;obtain⟨i,f⟩:=I k;exact⟨(i.cons b).trans (.swap _ _ _),pr.mpr ⟨fun x d=>(eS.mp (i.mem_iff.mp d)).elim (fun e=>e▸ug (oa.mp h)) (P x),f⟩⟩
  obtain⟨i,f⟩:=s _ j;exact⟨i.trans (g.cons a),f⟩
theorem KM (h:IntsAre vs ns):dw G (ns.map ae) vs:=by
 induction h with
 |nil=>exact cI
 |cons n t _ r=>exact cy ⟨_,rfl⟩ r
theorem Ot:∀{l:List aj} {I:List Int},tL l=ac I→l=I.map ae:=by
 intro l;induction l with
 |nil=>
  intro I e;injection e with e;subst e;rfl
 |cons d r h=>
  intro I e;induction d using aj.casesOn with
  |int i=>refine ay (dg.mp (e)) fun j a y=> ?_;subst y;refine ak (h a) ?_;rfl
  |_=>injection e
theorem Qd (h:mc G k A):k.map (·.1)=(A.map (·.1)).map ae:=by
 induction h with
 |nil=>rfl
 |cons a _ i=>rw[eE,eE,eE,i,a.1]
theorem FI {b:List Int} (h:a.map ae=b.map ae):a=b:=(DS fun _ _ e=>aj.int.inj e).mp h
theorem zn {v:aV} (e:v.isInt i=af):∃t,v=aq i t:=by
 induction v with
 |int j t=>exact⟨t,aS (aq · t) (dB e)⟩
 |_=>exact aR e cp
section
variable{c:dq} {Y:ar}
theorem aU.mk2 (k:aU c G L Y s) {tk:Nat} (q:∀b p,s.heap.get? b=ac p→h'.get? b=ac p) (e:s.heap.get? a=ah) (f:h'.get? a=ac o) (r:cQ c.w G o d):bV af c G (dt G a (.d d o)) L Y {s with heap:=h',toks:=tk}∧hg (dt G a (.d d o)) d (am a):=by
 have n:=k.free e;exact⟨⟨jX n,fun b l x h=>(gk h).elim (fun h=>nomatch h.2) fun h=>h.2,(k.kp (h':=h') fun b p _=>q b p).tag n f ⟨rfl,r⟩ fun _ h=>h.elim⟩,_,_,rfl,hL⟩
theorem v0 {h h':fT} (q:∀b p,h.get? b=ac p→h'.get? b=ac p):h.get? h'.objs.size=none:=by
 induction e:h.get? h'.objs.size with
 |none=>rfl
 |some o=>exact aR (ki (q _ _ e)) (gI _)
theorem zN (k:aU c G L Y s) (d:s.heap.get? a=ac o) (r:cQ c.w G o (.e b)) (h:∀p∈b,j9 p.1=af):∃A,mc G b A∧s.heap.DictOf (mI c.w) a A:=by
 have key:∀{g:Prop},(∀A,mc G b A→s.heap.DictOf (mI c.w) a A→g)→g:=fun g=>by
  induction b using cn with
  |nil=>exact nz (key:=ae 0) (vk:=aq 0 0) k d r rfl ⟨_,rfl⟩ (fun i t A _ _ x y=>g A x y) fun x _ _ e=>aR x.2.2 (by rw[←e];exact cp)
  |cons p t=>
   exact nz (key:=ae 0) (vk:=aq 0 0) k d r (by show(af&&(j9 p.1&&af||ja p.1&&ai))=af;refine ak (h p (cU _)) ?_;rfl) ⟨_,rfl⟩ (fun i t A _ _ x y=>g A x y) fun x _ _ e=>aR x.2.2 (by rw[←e];exact cp)
 exact key fun A x y=>bd A x y
theorem tt (k:aU c G L Y s) (b:s.heap.get? a=ac o) (r:cQ c.w G o (.e j)):s.TypeIs (am a) "dict"∧o.dict=ah∧∃e E,o.data=k9 e E∧e.size=j.length:=by
 rcases r.2 with⟨A,q,d⟩|⟨A,q,d⟩
 ·refine lf (d _ _ b) fun p e E h f g _ i _=> ?_;rw[b] at h;injection h with h;subst h;exact⟨⟨o,b,f.1⟩,f.2.1,e,E,g,by rw[←q9,i.length,q.len]⟩
 ·refine xf (d _ _ b (rP k.E q)) fun p e E h f g i _=> ?_;rw[b] at h;injection h with h;subst h;exact⟨⟨o,b,f.1⟩,f.2.1,e,E,g,by rw[←q9,i,aB,q.len]⟩
theorem Im (b:(a==yx)=ai):
  MeetsIn aC c.w (Builtin.«dict.__len__» ⟨[am a],[]⟩) (fun _ R s=>(∃o e E,s.heap.get? a=ac o∧o.data=k9 e E∧e.size=n)∧R (jJ (.ret (aq n s.toks))) {s with toks:=s.toks+1}):=
 .of_wp fun A R s z=>z.elim fun Z h=>jS Z fun o e E f d g=>by
  refine((aG (aG (t6 f d (bo ?_)))):aH _ _ (dictSize a>>=_) _ _ s);refine aG (wpAny_pendingCount_other b (SU ?_));rw[Ez,g];exact h
theorem O_ (k:aU c G L Y s) (S:jp c.w G s.heap v q) (hz:rM q≤16777216) (h:∀t t',Q (aq (rM q) t) {s with toks:=t'}):aH (aN aC c.w) c.A (gN (bJ "len") [v]) Q E s:=by
 induction q with
 |c d=>
  obtain⟨a,o,rfl,b,_,V,n,rfl,r,z⟩:=S;have l:=(d2 ..).trans r.len;exact Calls.call_len_list ⟨_,b,rfl,n,rfl⟩ (by refine ak l ?_;exact oL (jj▸z)) (by refine ak l ?_;exact h _ _)
 |j d=>
  refine k.sqv af S fun a V n f t b r l z=> ?_;subst f;have l:=(d2 ..).trans l;exact P.len_tuple b (by refine ak l ?_;exact p_ (jj▸z)) (by refine ak l ?_;exact h _ _)
 |e g=>
  obtain⟨a,o,rfl,b,n,r⟩:=S;obtain⟨T,_,i,p,m,u⟩:=tt k b r;have hz:g.length≤16777216:=hz;refine Rq kind_len plain_len entry_len (args_len1 _) (aG (bo ?_));refine aG (xU T SD (rt SD T F.entry_dict_len (F.args_dict_len_1 _) (Im (k.nmod n)) ⟨(mT o i p b m u),(aG (eF (bo ?_)))⟩));refine aG (EK (ak (aL (hD.mpr (gG _))) ?_));exact ak (aL (p_ hz)) (aG (wpAny_mkInt (bo (bd _ rfl (h _ _)))))
 |str x=>
  obtain⟨t,rfl⟩:=S;have w:x.cps.size≤16777216:=hz;exact P.len_str (p_ hz) (h _ _)
theorem OT (l:List aV):∀(X:List (Int×aV)),l.length=X.length→(∀(j:Nat) (v:aV),l[j]? =ac v→∃(k:Int) (x:aV),X[j]? =ac (k,x)∧v.isInt k=af)→IntsAre l (X.map (·.1)):=by
 induction l with
 |nil=>intro X h _;induction X using cn with
  |nil=>exact .nil
  |cons _ _=>injection h
 |cons v l I=>intro X h q;induction X using cn with
  |nil=>injection h
  |cons p X=>
   refine bK (q 0 v rfl) fun i x a b=> ?_;injection a with a;subst a;obtain⟨t,rfl⟩:=zn b;exact .cons i t (I X (uc h) fun j u d=>q (j+1) u d)
theorem Qk (T:bj w c) (k:aU c G L Y s) {v:aV} {f:List (aj×aj)} (U:jp c.w G s.heap v (.e f)) (e:(uG f).e=ac d) (h:∀{g v S},bV af c G g L Y S→a8 g d v→Q v S):aH (aN aC c.w) c.A (gN (bJ "sorted") [v]) Q E s:=by
 refine ii U fun a o y V n r=> ?_;subst y;obtain⟨z,e⟩:=dx e;refine ay (dg.mp e) fun I W y=> ?_;subst y;have B:=Ot W;obtain⟨X,q,m⟩:=zN k V r fun p Z=>by
  have:p.1∈f.map (·.1):=cr.mpr (bd p Z rfl);rw[B] at this;refine ay (cr.mp this) fun i _ α=> ?_;rw[←α];rfl
 have C:=FI ((Qd q).symm.trans B);obtain⟨μ,β⟩:=m.dictAt;refine Rq kind_sorted plain_sorted entry_sorted (args_sorted1 _) (aG (bo ?_));refine aG (kdu_collect (kdl_dict (k.nmod n)) T.b β (by rw[q.len];exact r.1) fun h' tk A u D=> ?_);have l:=(q9 ..).trans D.1;have γ:=C▸OT _ _ l fun j v δ=>D.2 j v (by rw[←Rj];exact δ);have F:X.length≤sizeLine:=by rw[q.len];exact r.1
 refine aG (EC ?_ (by rw[l];exact F));have x:(h'.push {cls:=bn "list",data:=op A.toList.toArray}).get? h'.objs.size=ac (seqObj "list" A.toList.toArray 0):=g4 _ rfl;refine aG (eF (pA slot_list_sort (bd _ x rfl) T9 (list_sort_tree x γ (by rw[l,q.len];exact z) fun ε N ζ M η=>bd _ rfl (?_)) (args_list_sort _)));refine bo (bd _ rfl (?_));obtain⟨ν,θ⟩:=sortedHeap_at x;have P:=QV (fun a b _ _ ι κ=>Int.le_antisymm ι κ) η (Bz I).2 (M.trans (Bz I).1.symm);have m:=k.mk2 (h':=sortedHeap (h'.push {cls:=bn "list",data:=op A.toList.toArray}) h'.objs.size A.toList ε) (tk:=tk) (d:=.c ((nB I).map ae)) (fun b ξ R=>by
  have t:=ki (u _ _ R);rw[sortedHeap_old (hZ t) (by rw[yc];exact px t)];exact iq _ (u _ _ R)) (v0 u) (by rw[θ];rfl) (es _ _ rfl (P▸KM ζ) (by rw[aB,←P,M.length_eq,←C,aB];exact F))
 exact h m.1 m.2
end
noncomputable def u6 (ds:List aj) (i:Nat):Bool:=match ds[i]?with
 |some (.bool b)=>b
 |_=>ai
theorem Lf:∀{ds:List aj} {b:Bool},na ds=ac b→(cv ds.length).all (u6 ds)=b:=by
 intro ds;induction ds with
 |nil=>
  intro b h;cases h;rfl
 |cons d ds i=>
  intro b h;cases d with
  |bool x=>
   obtain⟨B,r,rfl⟩:=dg.mp (show(na ds).map (fun y=>x&&y)=ac b from h);rw[mY,List.range_succ_eq_map,m0,pD,←i r];rfl
  |_=>cases h
theorem Ko (r:dw G ds vs):∀{b:Bool} {i:Nat},na ds=ac b→∀v,vs[i]? =ac v→v=cC (u6 ds i):=by
 induction r with
 |nil=>intro b i _ v h;cases h
 | @cons d u _ _ a _ I=>
  intro b i h v e;cases d with
  |bool x=>
   obtain⟨B,f,_⟩:=dg.mp (show yn (fun y=>x&&y) _=ac b from h);cases i with
   |zero=>cases e;exact a
   |succ i=>exact I f v e
  |_=>cases h
section
variable{c:dq} {Y:ar} {s:ct}
theorem G2 (n:bj w c) (k:aU c G L Y s) (d:hg G (.c ds) v) (e:na ds=ac b) (h:∀{S},aU c G L Y S→Q (cC b) S):aH (aN aC c.w) c.A (gN (bJ "all") [v]) Q E s:=by
 refine k.sqv ai d fun a V m p t f r l z=> ?_;subst p;have g:s.heap.IsList a V.toArray:=⟨_,f,rfl,m,rfl⟩;have q:a≠s.heap.objs.size:=hZ (ki f);refine call_all_walk (D9 g (⟨_,[_,a],[_],_,_,_,u6 ds,rfl,Walks.list (A:=c.A.in1) n.b _ a q V.toArray,⟨⟨_,g4 _ rfl,rfl,rfl⟩,g.push _⟩, ?_,fun B T u=> ?_⟩))
 ·intro i v s Q E P x;rw[Ko r e v ((pn ..).symm.trans P)];exact rf x
 ·rw[d2,l,Lf e];exact h (k.kp fun b o _ j=>u b o (fun y=>aR (bW.mp y▸ki j) (gI _)) (iq _ j))
theorem E4 (k:aU c G L Y s) (q:jp c.w G s.heap v (.c ds)) (h:∀{g v S},bV af c G g L Y S→a8 g (.j ds) v→Q v S):aH (aN aC c.w) c.A (gN (bn "tuple") [v]) Q E s:=by
 obtain⟨a,o,rfl,f,_,V,n,rfl,r,z⟩:=q;refine call_tuple_list (items:=V.toArray) ⟨_,f,rfl,n,rfl⟩ (fun h' e=> ?_) (by rw[d2,r.len];exact z);have m:=k.mk2 (h':=h'.push (la V 0)) (tk:=s.toks) (a:=h'.objs.size) (o:=la V 0) (d:=.j ds) (fun b j i=>iq _ (e _ _ i)) (v0 e) (g4 _ rfl) ⟨_,_,rfl,r,z⟩;exact h m.1 m.2
theorem Ip (m:bj w c) (k:aU c G L Y s) (e:(vR.c a b).e=ac d) (n:a8 G a V) (f:a8 G b p) (h:∀{v S},aU c G L Y S→a8 G d v→Q v S):aH (aN aC c.w) c.A (gN (bJ "max") [V,p]) Q E s:=by
 obtain⟨i,j,rfl,rfl,e⟩:=tv e;obtain⟨t,rfl⟩:=n;obtain⟨u,rfl⟩:=f;cases e;refine max_two_ints m.b fun h' tk q=> ?_;have g:=k.kp (h':=h') (tk:=tk) fun b o _ f=>q b o f;by_cases l:i<j
 ·rw[aJ l] at h⊢;exact h g ⟨_,rfl⟩
 ·rw[aL l] at h⊢;exact h g ⟨_,rfl⟩
theorem FE (k:aU c G L Y s) (e:(rI a).e=ac d) (b:a8 G a v) (h:∀{v S},aU c G L Y S→a8 G d v→Q v S):aH (aN aC c.w) c.A (gN (bn "str") [v]) Q E s:=by
 obtain⟨i,rfl,e⟩:=mE e;obtain⟨⟨f,g⟩,e⟩:=dx e;obtain⟨t,rfl⟩:=b;cases e;refine PySem.P.str_of_int ?_ (h (k.tok _) ⟨_,rfl⟩);have:i.natAbs<2^1920:=rr (C_ f g:i.natAbs<1000) (by decide+kernel);by_cases z:i.natAbs=0
 ·rw[z];decide
 ·exact(Nat.log2_lt z).mpr this
theorem HK (k:aU c G L Y s) (e:(vR.int a).e=ac d) (b:a8 G a v) (h:∀{v S},aU c G L Y S→a8 G d v→Q v S):aH (aN aC c.w) c.A (gN (bn "int") [v]) Q E s:=by
 cases a with
 |str x=>
  obtain⟨t,rfl⟩:=b;obtain⟨z,e⟩:=dx e;obtain⟨i,f,rfl⟩:=dg.mp e;exact KIN.call_text f z (h (k.tok _) ⟨_,rfl⟩)
 |_=>cases e
theorem tn {h:fT} (o:h.get? a=ac (d5 vs m)) (b:f vs.toArray=us.toArray):∃M,(h.update a (ul f)).get? a=ac (d5 us M):=by
 have:=IsL.update (h:=h) (l:=a) (items:=vs.toArray) (n:=m) o f;rw[b] at this;exact⟨_,this⟩
theorem mr {G:Prop} (h:(a,b)=(A,b')) (q:a=A→b=b'→G):G:=q (aS yA h) (aS yz h)
theorem td {G:Prop} (h:ac (a,b)=ac (A,b')) (q:a=A→b=b'→G):G:=mr (bD h) q
noncomputable def vM (m:Nat):String:=cond (d3 m 2) "list.pop" (cond (d3 m 3) "list.append" (cond (d3 m 4) "list.extend" "list.reverse"))
inductive HJ:Nat→b0→List aj→aj→b0→Prop where
 |a {X:List aj} {x:aj} (h:X.getLast?=some x):HJ 2 (.c X) [] x (.c X.dropLast)
 |c {X:List aj}:HJ 6 (.c X) [] .none (.c X.reverse)
 |app {X:List aj} {x:aj} (h:X.length≤b4):HJ 3 (.c X) [x] .none (.c (X++[x]))
 |b {X y:List aj} (f:Bool) (h:X.length+y.length≤b4):HJ 4 (.c X) [kH f y] .none (.c (X++y))
theorem r9 (e:cond (d3 m k) x y=ac z):(m=k∧x=ac z)∨y=ac z:=by
 cases h:d3 m k with
 |true=>rw[h] at e;exact av ⟨jd h,e⟩
 |false=>rw[h] at e;exact aI e
theorem Aw (e:(if x.length+y.length≤b4 then ac (a4,b0.c (x++y)) else ah)=ac (d,p')):HJ 4 (.c x) [kH f y] d p':=by
 have q:=dx e;exact td q.2 fun E a=>E▸a▸ .b f q.1
theorem MB (e:fL m p ds=ac (d,p')):HJ m p ds d p':=by
 induction p with
 |e _=>exact nomatch e
 |c X=>
  rcases ds with _|⟨x,_|_⟩
  ·refine(r9 e).elim (fun h=> ?_) fun h=>(r9 h).elim (fun h=>td h.2 fun E a=>h.1▸E▸a▸ .c) fun h=>(nomatch h);have e:=h.2;rw[h.1];cases l:X.getLast? with
   |none=>rw[l] at e;exact nomatch e
   |some x=>rw[l] at e;exact td e fun E a=>E▸a▸ .a l
  ·refine(r9 e).elim (fun h=> ?_) fun h=>(r9 h).elim (fun h=> ?_) fun h=>(nomatch h)
   ·have q:=dx h.2;exact td q.2 fun E a=>h.1▸E▸a▸ .app q.1
   rw[h.1];have e:=h.2;induction x using aj.casesOn with
   |c y=>exact Aw (f:=ai) e
   |j y=>exact Aw (f:=af) e
   |_=>exact nomatch e
  ·exact nomatch e
theorem qq {tk:Nat} {Q:aV→ct→Prop} (b:s.heap.get? a=ac (d5 us n)) (e:f us.toArray=ws.toArray) (r:dw G y ws) (hz:y.length≤fR) (D:a8 G d v)
  (h:∀v h' tk o,a8 G d v→hC a s.heap h'→h'.get? a=ac o→cQ c.w G o (.c y)→Q v {s with heap:=h',toks:=tk}):Q v {s with heap:=s.heap.update a (ul f),toks:=tk}:=
 (tn b e).elim fun k g=>h v _ tk _ D (nT ..) g ⟨_,k,rfl,r,hz⟩
theorem CP (h:dM R [] b):b=[]:=fs.mp h.len
theorem C6 (h:dM R [a] B):∃b,B=[b]∧R a b:=by
 have l:=h.len;rcases B with _|⟨b,_|_⟩
 ·exact nomatch l
 ·exact⟨b,rfl,(h.get (k:=0) rfl).elim fun c h=>bD h.1▸h.2⟩
 ·exact nomatch l
theorem Gj {y:List aj} {ws:List aV} (r:dw G x us) (h:ws.length=y.length) (hz:x.length+y.length≤b4):us.toArray.size+ws.toArray.size≤sizeLine:=by rw[d2,d2,r.len,h];exact ka hz
theorem B2 (h:n≤fR):¬(b&&QO n)=true:=fun e=>by
 have e:=dB (bS.mp e).2;rw[jj] at h;exact aR (aD h rfl) (jh e)
theorem z4 (k:aU c G L Y s) {Q:aV→ct→Prop} (e:fL m p ds=ac (d,p')) (g:s.heap.get? a=ac o) (r:cQ c.w G o p.frz) (D:dw G ds vs)
  (h:∀v h' tk x,a8 G d v→hC a s.heap h'→h'.get? a=ac x→cQ c.w G x p'.frz→Q v {s with heap:=h',toks:=tk}):aH (aN aC c.w) c.A (gN (bJ (vM m)) (am a::vs)) Q E s:=by
 have e:=MB e;induction e using HJ.casesOn with
 |a l=>
  have e:=CP D;subst e;refine cF r ?_;clear r;intro U n e r z;subst e;exact(r.get (List.getLast?_eq_getElem?.symm.trans l)).elim fun u y=>ob Q6 ⟨_,g,rfl⟩ PySem.F.entry_list_pop (PySem.F.args_list_pop_1 _) (MeetsSeq.list_pop_last a U.toArray n u (by rw[d2,r.len];exact(pn ..).trans y.1) (by rw[d2,r.len];exact z)) ⟨g,qq (ws:=U.dropLast) g (by rw[QP,d2,List.eraseIdx_length_sub_one]) (by rw[Ro,Ro,r.len];exact r.take _) (by rw[List.length_dropLast];exact ao (it ..) z) y.2 h⟩
 |c=>
  have e:=CP D;subst e;refine cF r ?_;clear r;intro U n e r z;subst e;exact ob QW ⟨_,g,rfl⟩ PySem.F.entry_list_reverse (PySem.F.args_list_reverse_1 _) (AutoSeq1.list_reverse_list_0 a U.toArray n (by rw[d2,r.len];exact z)) ⟨g,qq (v:=dj) (d:=a4) (ws:=U.reverse) g (List.reverse_toArray ..) r.c (by rw[DM];exact z) rfl h⟩
 |app j=>
  refine(C6 D).elim fun v q=> ?_;have e:=q.1;subst e;refine cF r ?_;clear r;intro U n e r z;subst e;exact ob Dn ⟨_,g,rfl⟩ QZ (QT _ _) (RI a U.toArray n _ (by rw[d2,r.len];exact z)) ⟨g,qq (v:=dj) (d:=a4) g (RT ..) (dM.app (cy q.2 cI) r) (by rw[bi];exact ao (b3 j) (by rw[jj];decide)) rfl h⟩
 |b f j=>
  refine(C6 D).elim fun v q=> ?_;have e:=q.1;subst e;refine cF r ?_;clear r;intro U n e r z;subst e;refine k.sqv f (show hg G (kH f _) v by induction f<;>exact q.2) fun B ws i C t A R F Z=> ?_;subst C;have w:=Gj r F j;induction f with
  |false=>exact ob Dm ⟨_,g,rfl⟩ QY (QS _ _) (AutoSeq1.list_extend_list_list_0 a U.toArray n _ _ _ (B2 w) (by rw[d2,r.len];exact z) (re w)) ⟨g,A,qq (v:=dj) (d:=a4) (ws:=U++ws) g (xY ..) (R.app r) (by rw[bi];exact ka j) rfl h⟩
  |true=>exact ob Dm ⟨_,g,rfl⟩ QY (QS _ _) (AutoSeq1.list_extend_list_tuple_0 a U.toArray n _ _ _ (B2 w) (by rw[d2,r.len];exact z) (re w)) ⟨g,A,qq (v:=dj) (d:=a4) (ws:=U++ws) g (xY ..) (R.app r) (by rw[bi];exact ka j) rfl h⟩
end
noncomputable def l7:List (Nat×aV):=[(10,bJ "len"),(11,bn "range"),(12,bJ "sorted"),(13,bJ "max"),(14,bJ "all"),(15,bn "str"),(16,bn "int"),(17,bn "tuple"),(18,bn "dict")]
structure er (w:bZ) (mg mb:br→Option aV):Prop where
 ns:(cO w.params).Ns n_ mg
 a:(cO w.params).Ns ry mb
 blt:∀x v,(x,v)∈l7→mg (d_ x)=ah∧mb (d_ x)=ac v
 funs:∀g,(j0.any fun p=>p.2==g)=af→100≤g→mg (d_ g)=ac (am (mo g))
 consts:∀x d,lG.lookup x=ac d→∃v,mg x=ac v∧a8 (d8 w) d v
theorem Oh:(lG.all fun p=> !(p.1==("__debug__":br)))=true:=by kernel_rfl
section
variable{r:gE} {Y:ar}
theorem A7 (h:l8 s y=af):s.names.lookup y=ac pC:=dB h
theorem aU.ns (k:aU c G L Y s) (h:(cO c.w.params).Ns a m):s.heap.Ns a m:=h.elim fun o h=>h.elim fun e h=>h.elim fun p h=>iT o e p ((k.head h.1).1) h.2
theorem A9 (B:er c.w mg mb) (o:bj w c) (k:aU c G L Y s) (h:l8 c.sc x=af) (d:(x==("__debug__":br))=ai) (a:mg x=ac v) (q:Q v s):aH (aN aC c.w) c.A (bO (ey x pos) c.env) Q E s:=
 R_ o.l (o.glob x (A7 h)) (loadGlobal_global (by refine ak o.u ?_;exact k.ns B.ns) a q) d
theorem Ff (B:er c.w mg mb) (o:bj W c) (h:uH c.sc d e=af):dr X Z c af G a8 (fun L Y k=>k d L Y) (bO (gZ d e) c.env):=by
 intro L Y s t Q E k w q;unfold uH at h;unfold gZ;induction n:(fE e).c with
 |some p=>
  have h:=n▸h;obtain⟨f,a⟩:=bS.mp h;have a:∃D,lG.lookup p.1=ac D∧aj.beq D d=true:=by
   induction l:lG.lookup p.1 with
   |none=>have a:=l▸a;exact aR a cp
   |some D=>rw[l] at a;exact bd D rfl a
  refine ay a fun D l g=> ?_;cases vT _ _ g;refine ay (B.consts _ _ l) fun v j m=> ?_;exact A9 B o k f (Bool.not_eq_true _▸fun z=>aR (cH.mp Oh _ (hW l)) (by refine ak z ?_;exact cp)) j (q (.of k) (m.mono k.base.ld) w)
 |none=>
  rw[n] at h;induction d using aj.casesOn with
  |none=>exact bo (q (d:=a4) (.of k) rfl w)
  |bool b=>exact bo (q (d:=aA b) (.of k) rfl w)
  |int i=>
   cases(fE e).un with
   |false=>exact wpAny_mkInt (q (d:=ae i) (.of (k.tok _)) ⟨_,rfl⟩ w)
   |true=>
    refine wpAny_UnaryOp (wpAny_Constant_int (T6 (q (d:=ae i) (.of ((k.tok _).tok _)) ⟨_,aS (aq · _) (Int.neg_neg i)⟩ w)))
  |str x=>exact wpAny_mkText (q (d:=bP x) (.of (k.tok _)) ⟨_,rfl⟩ w)
  |_=>exact aR h cp
theorem aU.own (k:aU c G L Y s) (e:bG x L=ac (bE p)) {P:Prop} (q:∀a g,iF G s.heap x (am a) (c.pl x)→bV af c G g (f8 x (.l p.frz) L) Y s→a8 g p.frz (am a)→P):P:=by
 refine ay (k.peek (l:=ai) e) fun a b t=> ?_;obtain⟨o,d,z,h,R⟩:=k.ok _ _ t;rw[e] at h;cases h;exact iD (k.frz t e d R) fun f i j m=>q a _ b ⟨f,i,m⟩ (by induction p<;>exact j)
theorem GG (o:bj W c) {x:Nat} (h:oN c.sc x=af):dr X Z c af G a8 (p3 T i r (.f x)) (bO (ey (cc x) pos) c.env):=by
 intro L Y s b Q E k w q;have w:aQ X Z (match bG x L with
  |some (.l d)=>b d L Y
  |some (.own c)=>b c.frz (f8 x (.l c.frz) L) Y
  |_=>.a):=w
 induction e:bG x L with
 |none=>have w:=e▸w;exact w.elim
 |some S=>
  rw[e] at w;induction S with
  |l d=>exact(k.fr x _ e).elim fun v p=>qJ o h p.1 (q (.of k) p.2 w)
  |own p=>exact k.own e fun A g P f D=>qJ o h P (q f D w)
  |a p=>exact w.elim
theorem Ou (i:dr X Z c a.simple G a8 (r.e a) (bO ea c.env)) (I:∀{G},dr X Z c b.simple G a8 (r.e b) (bO f c.env)):
  dr X Z c (a.simple&&b.simple) G a8 (fun L Y k=>r.e a L Y fun D L Y=>r.e b L Y fun g L Y=>e_ (.w o D g) fun d=>k d L Y) (bO (.BinOp ea o f pos) c.env):=by
 intro L Y s n Q E k w q;refine wpAny_BinOp (i k w fun P h w=>I P.k w fun p j w=>(ay w ?_));clear w;intro d e w;exact G_ p.k (h.mono p.l.ld) j (fun l m=>q (by have:=(P.tr p).tr l;rwa[n9] at this) m w) e
theorem NR (i:dr X Z c a.simple G a8 (r.e a) (bO ea c.env)):dr X Z c ai G a8 (fun L Y k=>r.e a L Y fun d L Y=>aT.b (hH d) fun b=>k (aA !b) L Y) (bO (yD .Not ea pos) c.env):=by
 intro L Y s f Q E k w q;refine wpAny_UnaryOp (i k w fun p D w=>(ay w ?_));clear w;intro b e w;exact not_value (sP p.k e D fun t=>q (d:=aA !b) ⟨p.l.low,p.h,p.k.tok t⟩ rfl w)
theorem GK (i:dr X Z c x.simple G (fun _ a b=>a=b) (r.t x) (lX f c.env (bO f c.env))) (I:∀{G},dr X Z c a.simple G a8 (r.e a) (bO ea c.env)) (g:∀{G},dr X Z c b.simple G a8 (r.e b) (bO h c.env)):
  dr X Z c ai G a8 (fun L Y k=>r.t x L Y fun v L Y=>if v then r.e a L Y k else r.e b L Y k) (bO (.IfExp f ea h pos) c.env):=by
 intro L Y s j Q E k w q;refine wpAny_IfExp (i k w fun p e w=> ?_);subst e;rename_i v _ _ _ _;induction v with
 |true=>exact I p.k w fun P d w=>q (p.low.tr P.low) d w
 |false=>exact g p.k w fun P d w=>q (p.low.tr P.low) d w
theorem r5 (R:b2 W X Z r) (o:bj W c):∀{l:List c6} {G:bM},eM c.sc e l=af→dr X Z c (lL e) G (fun G ds vs=>dw G ds vs∧ds.length=e.length) (gW r e) (lW (gL pos (gt (dJ e l) c.env))):=by
 induction e with
 |nil=>exact fun _=>fun k w q=>pG (q (.of k) ⟨cI,rfl⟩ w)
 |cons m e i=>
  intro l G h;refine fun k w q=>(?_:aH _ _ (lW (gL pos (gt (bz m (l.headD fy)::dJ e l.tail) c.env))) _ _ _);rw[(hV (bS.mp h).1).a];exact m5 (R o (bS.mp h).1 k w fun p D w=>i (bS.mp h).2 p.k w fun P d w=>q (p.tr P) ⟨cy (D.mono P.l.ld) d.1,aS (·+1) d.2⟩ w)
end
section
variable{c:dq}
theorem Kv:∀{e:List bt} {l:List c6},(dJ e l).length=e.length:=by
 intro e;induction e with
 |nil=>
  intro _;exact rfl
 |cons _ e i=>
  intro l;exact aS (·+1) (i)
theorem qj (h:n≤1000):n≤sizeLine:=ka (aD h rfl)
theorem Gx (R:b2 W X Z r) (a:bj W c) (h:eM c.sc e l=af):dr X Z c (lL e) G a8 (fun L Y k=>if e.length≤1000 then gW r e L Y fun ds L Y=>k (.j ds) L Y else .a) (bO (ol (dJ e l) n pos) c.env):=fun{L Y s b Q E} k w q=>by
 have w:aQ X Z (if e.length≤1000 then _ else .a):=w
 split at w
 ·rename_i z;rw[arm_eval_Tuple];refine aG (fw (aG (r5 R a h k w fun p d w=> ?_)));rename_i ds _ _ _ v _;have m:=p.k.made (o:=la v 0) (d:=.j ds) rfl (es _ _ rfl d.1 (qj (d.2▸z)));exact wpAny_newTuple (q (d:=.j ds) (by have:=p.tr m.1;rwa[n9] at this) m.2 w) (by rw[d.1.len];exact qj (d.2▸z))
 ·exact w.elim
theorem O6 (R:b2 W X Z r) (a:bj W c) (h:eM c.sc e l=af):dr X Z c ai G a8 (fun L Y k=>if e.length≤1000 then gW r e L Y fun ds L Y=>k (.c ds) L Y else .a) (bO (pR (dJ e l) pos) c.env):=fun{L Y s b Q E} k w q=>by
 have w:aQ X Z (if e.length≤1000 then _ else .a):=w
 split at w
 ·rename_i z;rw[arm_eval_List];refine aG (fw (aG (r5 R a h k w fun p d w=> ?_)));rename_i ds _ _ _ v _;have m:=p.k.made (o:=d5 v 0) (d:=.c ds) rfl (es _ _ rfl d.1 (qj (d.2▸z)));exact EC (q (d:=.c ds) (p.low.tr m.1.low) m.2 w) (by rw[d.1.len];exact qj (d.2▸z))
 ·exact w.elim
theorem BE (c:dq) (G:bM):cQ c.w G {cls:=bn "dict",data:=k9 #[]} (.e []):=⟨cA _,av (bd ([]) cI (fun h a e=>sg _ (#[]) 0 e (⟨rfl,rfl,rfl⟩) rfl (fun _ h=>aR h (DJ _)) .nil yd))⟩
theorem Mn:dr X Z c ai G a8 (fun L Y k=>k (.e []) L Y) (bO (uF [] [] pos) c.env):=fun{L Y s a Q E} k w q=>by
 have m:=k.made rfl (BE c G);exact SK (q (d:=.e []) m.1.low m.2 w)
theorem Ah (b:pX m=af) (h:b_ s m e=af):yk (bz m e) a f w=w:=by
 induction m using bt.casesOn with
 |v=>exact aR h cp
 |h d=>
  refine(?_:yk (gZ d e) a f w=w);unfold gZ;cases(fE e).c with
  |some q=>rfl
  |none=>induction d using aj.casesOn<;>first|rfl|(cases(fE e).un<;>rfl)
 |call g E=>induction E using cn with
  |nil=>exact aR b cp
  |cons a E=>rfl
 |_=>rfl
theorem Km (b:∀w,yk v a c.env w=w)
  (h:aH (aN aC c.w) c.A (bO v c.env) (fun o S=>aH (aN aC c.w) c.A (getAttr o a af) Q E S) E s):aH (aN aC c.w) c.A (bO (iu v a pos) c.env) Q E s:=by
 rw[arm_eval_Attribute,b];exact aG (d9 h (fun o S d=>aG (fw (aG (eF (d9 d (fun r f e=>aG (DT (bo e))) fun _ _ x=>x))))) fun _ _ x=>x)
theorem za (R:b2 W X Z r) (o:bj W c) (f:pX a=af) (h:b_ c.sc a ea=af):dr X Z c a.simple G (fun G t v=>l_ G t.1 x (ac v) (ac (mJ t.2)))
  (qc r a x) (bO (iu (bz a ea) (cW x) pos) c.env):=fun{L Y s g Q E} k w q=>by
 refine Km (fun _=>Ah f h) (R o h k w fun p d w=> ?_);rename_i D _ S _ _ _;induction D using aj.casesOn with
 |inst j=>
  refine ay d fun b y t=> ?_;subst y;have w:aQ X Z (match ie j x S with
    |some A=>g (j,A) _ _
    |none=>.a):=w
  induction e:ie j x S with
  |none=>have w:=e▸w;exact w.elim
  |some A=>have w:=e▸w;exact AL p.k t e fun u T h=>q ⟨p.l,p.h,p.k.tok T⟩ h w
 |_=>exact w.elim
end
section
variable{c:dq} {Y:ar}
theorem lI (R:b2 W X Z r) (o:bj W c) (h:b_ c.sc a ea=af):dr X Z c a.simple G lx (f0 r a) (bO (bz a ea) c.env):=fun{L Y s g Q E} k w q=>by
 induction a using bt.casesOn with
 |f x=>
  have w:aQ X Z (match bG x L with
   |some (.l d)=>g (dI d) L Y
   |some _=>g (g' x) L Y
   |none=>.a):=w
  induction e:bG x L with
  |none=>rw[e] at w;exact w.elim
  |some S=>
   rw[e] at w;refine(k.fr x _ e).elim fun v p=>qJ o h p.1 ?_;induction S with
   |l d=>exact q (.of k) (.of p.2) w
   |own z=>exact q (d:=g' x) (.of k) (p.2.imp fun a h=>⟨ai,h⟩) w
   |a z=>exact q (d:=g' x) (.of k) (p.2.imp fun a h=>⟨af,h⟩) w
 |attr b x=>
  obtain⟨i,h⟩:=bS.mp h;refine za R o i h k (show aQ X Z (qc r b x L Y fun t L Y=>match t.2 with
   |.l d=>g (dI d) L Y
   |.box _=>g (dI (da t.1 x)) L Y) from w) fun p d w=> ?_
  rename_i t _ _ _ _ _;obtain⟨j,A⟩:=t;induction A with
  |l m=>refine ay d fun u e D=> ?_;injection e with e;subst e;exact q p (.of D) w
  |box z=>refine ay d fun u e t=> ?_;injection e with e;subst e;exact q (d:=dI (da j x)) p (aI ⟨_,_,_,rfl,rfl,t⟩) w
 |_=>exact R o h k w fun p d w=>q p (.of d) w
theorem GU (R:b2 W X Z r) (o:bj W c) (b:pX a=af) (h:b_ c.sc a ea=af):dr X Z c a.simple G a8 (fun L Y k=>qc r a x L Y fun t L Y=>match t.2 with
  |.l d=>k d L Y
  |.box _=>if jn t.1 x then k (da t.1 x) L Y else .a) (bO (iu (bz a ea) (cW x) pos) c.env):=fun{L Y s f Q E} k w q=>by
 refine za R o b h k (w) fun p d w=> ?_;rename_i t g S _ _ _;obtain⟨j,A⟩:=t;induction A with
 |l i=>refine ay d fun u e D=> ?_;injection e with e;subst e;exact q p D w
 |box z=>
  refine ay d fun u e t=> ?_;injection e with e;subst e;have w:aQ X Z (if jn j x then f (da j x) g S else .a):=w
  split at w
  ·rename_i n;exact q (d:=da j x) p ⟨n,_,rfl,t⟩ w
  ·exact w.elim
theorem sj (w:aQ X Z (i9 z L Y k)):∃q,z.now L Y=ac q∧aQ X Z (k q):=by
 unfold i9 at w;induction h:z.now L Y with
 |none=>rw[h] at w;exact w.elim
 |some q=>rw[h] at w;exact bd q rfl w
theorem Ae {i:String} (a:s.TypeIs o T) (l:typeLookup (bn T) "__getitem__"=dm (ac (bJ i))) (h:Q ai s):aH (aN aC c.w) c.A (getitemInPython o) Q E s:=by
 refine ak (getitemInPython_of_ne a.not_modules) (aG (ua a l ?_));first|exact wpAny_pure h|exact wpAny_bind (wpAny_pure h)
theorem f7 [Decidable p] (w:aQ X Z (if p then t else .a)):p∧aQ X Z t:=by
 by_cases h:p
 ·rw[aJ h] at w;exact⟨h,w⟩
 ·rw[aL h] at w;exact w.elim
theorem uL {z:ny} {b:Bool} (h:(!z.box||b)=af):z.box=af→b=true:=fun e=>by rw[e] at h;exact h
theorem OG (R:b2 W X Z r) (o:bj W c) (f:b_ c.sc a ea=af) (h:b_ c.sc b g=af):dr X Z c (a.simple&&b.simple) G a8 (fun L Y k=>f0 r a L Y fun z L Y=>if !z.box||b.simple then r.e b L Y fun d L Y=>i9 z L Y fun q=>e_ (.get q d) fun v=>k v L Y else .a)
  (bO (pH (bz a ea) (bz b g) pos) c.env):=fun{L Y s F Q E} k w q=>by
 rw[Sm];refine aG (lI R o f k w fun P C w=>aG (eF ((f7 w).elim fun j w=>(R o h P.k w fun p D w=>aG (fw ((sj w).elim fun I m=>m.elim fun n x=>x.elim fun v y=>y.elim fun e w=> ?_))))));have S:=sm P.k C p (uL j) n;refine bK (Cu p.k S) fun T i A l=>aG (Ae A l ?_);rw[(hV h).sub];exact aG (Eg (J_ o p.k S D e fun u t B=>aG (DT (bo (q ⟨(P.tr p).l,(P.tr p).h,p.k.tok t⟩ B w)))))
theorem zr (R:b2 W X Z r) (a:bj W c) (h:wT c.sc o e=af):dr X Z c (nJ o) G (fun _ p v=>i0 v p) (p6 r o) (evalPart (th o e) c.env):=fun{L Y s b Q E} k w q=>by
 induction o with
 |none=>exact bo (q (.of k) rE w)
 |some m=>
  refine R a h k w fun p d w=> ?_;rename_i D _ _ _ _ _;induction D using aj.casesOn with
  |int i=>obtain⟨t,rfl⟩:=d;exact q p (.int _ _) w
  |_=>exact w.elim
theorem P9 (R:b2 W X Z r) (g:bj W c) {o i:Option bt} (y:b_ c.sc a ea=af) (j:wT c.sc o A=af) (B:wT c.sc i D=af):dr X Z c (a.simple&&(nJ o&&nJ i)) G a8
  (fun L Y k=>f0 r a L Y fun z L Y=>if !z.box||(nJ o&&nJ i) then p6 r o L Y fun l L Y=>p6 r i L Y fun h L Y=>i9 z L Y fun q=>e_ (.cut l h q) fun v=>k v L Y else .a)
  (bO (pH (bz a ea) (.Slice (th o A) (th i D) ah p') pos) c.env):=fun{L Y s δ Q E} k w q=>by
 rw[Sm];refine aG (lI R g y k w fun P C w=>aG (eF (wpAny_Slice ((f7 w).elim fun F w=>(zr R g j P.k w fun m l w=>zr R g B m.k w fun t u w=> ?_)))));rename_i V _ _ _ _ _ _ M S;rw[evalPart_none];refine bo (aG (fw ((sj w).elim fun ε N=>N.elim fun n U=>U.elim fun v α=>α.elim fun e w=> ?_)));have p:=m.tr t;have f:=t.k.kp (h':=S.heap.push {cls:=bn "slice",data:=m8 #[V,M,dj]}) (tk:=S.toks) fun _ _ _ h=>iq _ h;have x:=sm P.k C ⟨p.l,p.h,f⟩ (uL F) n;refine bK (Cu f x) fun T I β j=>aG (Ae β j (aG (Eg (Kh f x (g2 _ (g4 _ rfl) rfl rfl) l u e fun γ d=>aG (DT (bo (q ?_ d w)))))));have:=(P.tr p).tr ((bV.mk (b:=af) .f (fun _ _ _ h=>h) f).tr γ);rwa[Ef,n9] at this
end
section
variable{Y:ar}
theorem yU (R:b2 W X Z r) (y:bj W c) (N:b_ c.sc a ea=af) (M:b_ c.sc b I=af) {K:Bool→au→ar→aT} (k:aU c G L Y s) (w:aQ X Z (wd r o a b L Y K)) (q:∀{v l st' F x},bV ai c G F l st' x→aQ X Z (K v l st')→Q (cC v) x):
  aH (aN aC c.w) c.A (bO (bz a ea) c.env) (fun V m=>aH (aN aC c.w) c.A (bO (bz b I) c.env) (fun j S=>aH (aN aC c.w) c.A (gr o V j) Q E S) E m) E s:=by
 have C:∀{D:aj} {A:au} {B:ar} {g:bM} {V:aV} {m:ct},bV a.simple c G g A B m→a8 g D V→aQ X Z (r.e b A B fun T L Y=>aT.b (.k o D T) fun v=>K v L Y)→
   aH (aN aC c.w) c.A (bO (bz b I) c.env) (fun j S=>aH (aN aC c.w) c.A (gr o V j) Q E S) E m:=fun p d w=>R y M p.k w fun P U w=>w.elim fun v h=>He y P.k h.1 (d.mono P.l.ld) U (q (p.low.tr P.low) h.2)
 have i:∀{D:aj} {A:au} {B:ar} {g:bM} {V:aV} {m:ct} {K:Bool→au→ar→aT} {o:m_},bV a.simple c G g A B m→a8 g D V→aQ X Z (f0 r b A B fun z L Y=>i9 z L Y fun q=>aT.b (.has D q) fun v=>K v L Y)→
   (∀{v l st' F x j},bV ai c G F l st' x→aQ X Z (K v l st')→aH (aN aC c.w) c.A (gr c7 V j) (fun u S=>u=cC v∧aU c F l st' S) E x→aH (aN aC c.w) c.A (gr o V j) Q E x)→
   aH (aN aC c.w) c.A (bO (bz b I) c.env) (fun j S=>aH (aN aC c.w) c.A (gr o V j) Q E S) E m:=fun p d w f=>lI R y M p.k w fun P α w=>by
    obtain⟨β,n,v,e,w⟩:=sj w;exact f (p.low.tr P.low) w (IX y P.k (sm P.k α (.of P.k) (fun _=>rfl) n) (d.mono P.l.ld) e fun t=>⟨rfl,P.k.tok t⟩)
 refine R y N k w fun p d w=> ?_;induction o with
 |In=>exact i p d w fun p w h=>d9 h (fun u S ⟨e,k⟩=>e▸q ⟨p.l,p.h,k⟩ w) fun _ _ h=>h
 |NotIn=>exact i p d w fun p w h=>PW (d9 h (fun u S ⟨e,k⟩=>⟨e,q ⟨p.l,p.h,k⟩ w⟩) fun _ _ h=>h)
 |_=>exact C p d w
theorem Bq (h:∀p,behindInMarks p e=ai):lastMarks [o,q] [x,e]=false:=h q
theorem GD (R:b2 W X Z r) (o:bj W c) (n:b_ c.sc a ea=af) (t:b_ c.sc b u=af) (i:b_ c.sc m x=af):dr X Z c ai G a8 (fun L Y k=>if(o' q 0 0).isSome then r.e a L Y fun y L Y=>r.e b L Y fun D L Y=>aT.b (.s p y D) fun v=>
   if v then r.e m L Y fun z L Y=>aT.b (.s q D z) fun v=>k (aA v) L Y else k (aA ai) L Y else .a) (bO (rz (bz a ea) [p,q] [bz b u,bz m x] pos) c.env):=fun{L Y s C Q E} k w g=>by
 obtain⟨_,w⟩:=f7 w;refine Compare_chain (R o n k w fun f A w=>chain_link (R o t f.k w fun P j w=>(ay w ?_))) (Bq (hV i).mark);clear w;intro v e w;refine sf e (A.mono P.l.ld) j (rf ?_);induction v with
 |false=>exact g (d:=aA ai) (f.low.tr P.low) rfl w
 |true=>exact chain_last (R o i P.k w fun l B w=>w.elim fun v h=>sf h.1 (j.mono l.l.ld) B (g (d:=aA v) ((f.low.tr P.low).tr l.low) rfl h.2))
theorem MO (R:b2 W X Z r) (o:bj W c) (n:b_ c.sc a ea=af) (t:b_ c.sc b x=af) (i:b_ c.sc m y=af) {K:Bool→au→ar→aT} (k:aU c G L Y s) (w:aQ X Z (if(o' q 0 0).isSome then r.e a L Y fun z L Y=>r.e b L Y fun d L Y=>aT.b (.s p z d) fun v=>
   if v then r.e m L Y fun A L Y=>aT.b (.s q d A) fun v=>aT.b (hH (aA v)) fun b=>K b L Y else aT.b (hH (aA ai)) fun b=>K b L Y else .a)) (g:∀{v l st' B S},bV ai c G B l st' S→aQ X Z (K v l st')→Q v S):aH (aN aC c.w) c.A (lX (rz (bz a ea) [p,q] [bz b x,bz m y] pos) c.env I) Q E s:=by
 refine(f7 w).elim fun _ w=>isTrue_chain (R o n k w fun f C w=>test_link (R o t f.k w fun P D w=> ?_)) (Bq (hV i).mark);refine ay w ?_;clear w;intro v e w;refine sf e (C.mono P.l.ld) D (rf ?_);induction v with
 |false=>refine ay w ?_;clear w;intro u e w;injection e with e;subst e;exact g (f.low.tr P.low) w
 |true=>exact test_last (R o i P.k w fun j F w=>w.elim fun v h=>sf h.1 (D.mono j.l.ld) F (rf (h.2.elim fun u h=>by cases h.1;exact g ((f.low.tr P.low).tr j.low) h.2)))
set_option backward.match.sparseCases true in
theorem Bv (R:b2 W X Z r) (f:bj W c) (g:o=cond h .And .Or):∀{l:List c6} {G:bM},eM c.sc E l=af→dr X Z c ai G a8 (w8 r h E) (boolOp pos o (evalEach (dJ E l) c.env)):=by
 induction E with
 |nil=>exact fun _=>fun _ w _=>w.elim
 |cons m E i=>
  induction E using cn with
  |nil=>exact fun a=>fun k w q=>R f (bS.mp a).1 k w fun p d w=>q p.low d w
  |cons n E=>
   intro l G a;refine fun k w q=> ?_
   refine(?_:aH _ _ (do
     let v←bO (bz m (l.headD fy)) c.env
     uy pos
     let t←holding [v] (rB v)
     match o,t with
     |.And,false|.Or,true=>dm v
     |_,_=>boolOp pos o (evalEach (dJ (n::E) l.tail) c.env)) _ _ _)
   refine aG (R f (bS.mp a).1 k w fun p d w=>aG (fw (ay w ?_)));clear w;intro t e w;refine aG (eF (sP p.k e d fun z=> ?_));have P:=p.low;subst g;induction h<;>induction t
   ·exact i (bS.mp a).2 (P.k.tok z) w fun b d w=>q (bV.tr (bV.mk P.l P.h (P.k.tok z)) b) d w
   ·exact bo (q ⟨P.l,P.h,P.k.tok z⟩ d w)
   ·exact bo (q ⟨P.l,P.h,P.k.tok z⟩ d w)
   ·exact i (bS.mp a).2 (P.k.tok z) w fun b d w=>q (bV.tr (bV.mk P.l P.h (P.k.tok z)) b) d w
theorem AD (T:hI W X Z r) (o:bj W c) (g:j=cond h .And .Or):∀{l:List c6} {G:bM},eM c.sc E l=af→dr X Z c ai G (fun _ a b=>a=b) (vv r h E) (allTrue j (dJ E l) c.env):=by
 subst g;induction E with
 |nil=>
  refine fun l G f=>fun k w q=>(?_:aH _ _ (allTrue _ [] _) _ _ _);rw[arm_allTrue_nil];refine bo (q (.of k) ?_ w);induction h<;>rfl
 |cons m E i=>
  intro l G f;refine fun k w q=>(?_:aH _ _ (allTrue _ (_::dJ E l.tail) _) _ _ _);rw[arm_allTrue_cons];refine aG (T o (bS.mp f).1 k w fun p e w=> ?_);subst e;rename_i t _ _ _ _;induction h<;>induction t
  ·exact i (bS.mp f).2 p.k w fun P d w=>q (p.low.tr P) d w
  ·exact bo (q p.low rfl w)
  ·exact bo (q p.low rfl w)
  ·exact i (bS.mp f).2 p.k w fun P d w=>q (p.low.tr P) d w
end
section
variable{c:dq}
theorem IE {e:List eT} (a:(d==yx)=ai) (h:s.heap.get? d=ac o) (b:o.ExactDict) (t:o.data=k9 e.toArray p)
  (f:Q (am s.heap.objs.size) {s with heap:=s.heap.push {cls:=bn "dict_keyiterator",data:=m8 #[am d,aq 0 0,aq e.length 0,aq p 0]}}):aH (aN aC c.w) c.A (km (am d)) Q E s:=by
 have T:s.TypeIs (am d) "dict":=bd o h b.1;refine wpAny_pyIter_slot T Q3 (pA Q3 T PySem.F.entry_dict_iter (aG (aG (RX T (bo (?_:aH _ _ (QU d>>=_) _ _ s))))) (PySem.F.args_dict_iter_1 _));unfold QU;refine ak (aL (by refine ak a ?_;exact cp)) ?_;refine aG (bo (aG (t6 h t (aG (Ei h t (aG (t5 (bo ⟨_,rfl,"dict_keyiterator",_,⟨_,g4 _ rfl,rfl⟩,tQ.lookup, ?_⟩))))))));simpa[oj] using f
theorem Ir {a:List eT} (h:s.heap.IsKeyIter I d i a.length p) (g:s.heap.get? d=ac o) (j:o.data=k9 a.toArray p) (x:a[i]? =ac e)
  (m:∀h',h'.IsKeyIter I d (i+1) a.length p→hC I s.heap h'→Q (ac e.key) {s with heap:=h'}):aH (aN aC c.w) c.A (uB (am I)) Q E s:=by
 refine eA (id h) fun r f n b=> ?_
 refine aG (ED (xU h.typeIs tQ
  (pA tQ h.typeIs QI ?_ (QH _))))
 refine aG (bo (aG ?_));refine aG ?_;first|refine wpAny_bind (wpAny_typeNameOfWhole_keyiter h.typeIs (wpAny_pure ?_))|refine wpAny_bind (wpAny_typeNameOf_keyiter h.typeIs (wpAny_pure ?_))
 refine wpAny_bind (wpAny_fieldsOf f b (ak (show Builtin.Dict_items.ownsTuple "dict_keyiterator"=false by decide) ?_));refine((ak (if_neg (show¬((Value.ref d==Value.none)=true) from Bool.false_ne_true)) ?_):wpAny _ _ (if(Value.ref d==Value.none)=true then _ else _) _ _ s)
 refine wpAny_bind (wpAny_pure (wpAny_bind (wpAny_dictEntries g j ?_)));refine ak (if_neg (by simp)) (wpAny_bind (wpAny_pure ?_));refine wpAny_bind (wpAny_dictEpoch g j (ak (if_neg (by simp)) ?_));refine wpAny_pure ?_;have t:=(List.getElem?_eq_some_iff.mp x).1;have q:i<a.toArray.size:=by simpa using t
 have k:a.toArray[i].key=e.key:=by
  have:=(List.getElem?_eq_some_iff.mp x).2;simp[this]
 refine((ak (show(if(i:Int)<0 then(none:Option DictEntry) else a.toArray[(i:Int).toNat]?)=some a.toArray[i] from(if_neg (Int.not_lt.mpr (Int.natCast_nonneg i))).trans (Array.getElem?_eq_getElem q)) ?_):wpAny _ _ (match(if(i:Int)<0 then(none:Option DictEntry) else a.toArray[(i:Int).toNat]?) with|some e=>_|none=>_) _ _ s)
 refine aG ?_;first|refine wpAny_bind (wpAny_typeNameOfWhole_keyiter h.typeIs (wpAny_pure ?_))|refine wpAny_bind (wpAny_typeNameOf_keyiter h.typeIs (wpAny_pure ?_))
 refine wpAny_bind (wpAny_isOneOf_keyiter h.typeIs (?_:wpAny _ _ (setField (.ref I) 1 (rawInt ((i:Int)+1))>>=_) _ _ s));refine wpAny_bind (wpAny_setField f b (by simp) ?_)
 have l:(s.heap.update I (Obj.mapFields (·.setIfInBounds 1 (rawInt ((i:Int)+1))))).IsKeyIter I d (i+1) a.length p:=
  g2 _ (Heap.get?_update_self _ f (Obj.isFreed_of_fields (Obj.data_mapFields b _))) ((Obj.cls_mapFields ..).trans n) (by rw[Obj.data_mapFields b];simp[rawInt])
 refine wpAny_bind (wpAny_holding (wpAny_bind (wpAny_isOneOf_keyiter (s:={s with heap:=s.heap.update I (Obj.mapFields (·.setIfInBounds 1 (rawInt ((i:Int)+1))))}) l.typeIs ?_)));exact ak k (wpAny_pure (wpAny_pure (bd _ rfl (wpAny_pure (m _ l (Heap.SameBut.update ..))))))
theorem Gn {a:List eT} (k:c.A.handled=ah) (h:s.heap.IsKeyIter i d a.length a.length p) (b:s.heap.get? d=ac o) (f:o.data=k9 a.toArray p)
  (l:∀h',Heap.ExtBut i s.heap h'→Q ah {s with heap:=h'}):aH (aN aC c.w) c.A (uB (am i)) Q E s:=by
 refine eA (id h) fun n g q j=> ?_
 refine aG (ED (xU h.typeIs tQ
  (pA tQ h.typeIs QI ?_ (QH _))))
 refine aG (bo (aG ?_));refine aG ?_;first|refine wpAny_bind (wpAny_typeNameOfWhole_keyiter h.typeIs (wpAny_pure ?_))|refine wpAny_bind (wpAny_typeNameOf_keyiter h.typeIs (wpAny_pure ?_))
 refine wpAny_bind (wpAny_fieldsOf g j (ak (show Builtin.Dict_items.ownsTuple "dict_keyiterator"=false by decide) ?_));show wpAny _ _ (if(Value.ref d==Value.none)=true then _ else _) _ _ s
 refine ak (if_neg (show¬((Value.ref d==Value.none)=true) from Bool.false_ne_true)) (wpAny_bind (wpAny_pure ?_));refine wpAny_bind (wpAny_dictEntries b f (ak (if_neg (by simp)) ?_));refine wpAny_bind (wpAny_pure (wpAny_bind (wpAny_dictEpoch b f ?_)));refine ak (if_neg (by simp)) (wpAny_pure ?_);have m:a.toArray.size≤a.length:=by simp
 refine((ak (show(if(a.length:Int)<0 then(none:Option DictEntry) else a.toArray[(a.length:Int).toNat]?)=none from(if_neg (Int.not_lt.mpr (Int.natCast_nonneg a.length))).trans (Array.getElem?_eq_none m)) ?_):wpAny _ _ (match(if(a.length:Int)<0 then(none:Option DictEntry) else a.toArray[(a.length:Int).toNat]?) with|some e=>_|none=>_) _ _ s)
 refine aG ?_;first|refine wpAny_bind (wpAny_typeNameOfWhole_keyiter h.typeIs (wpAny_pure ?_))|refine wpAny_bind (wpAny_typeNameOf_keyiter h.typeIs (wpAny_pure ?_))
 show wpAny _ _ (setField (.ref i) 0 .none>>=_) _ _ s;refine wpAny_bind (wpAny_setField g j (by simp) (wpAny_bind ?_));simp only[newExc,newTuple];refine wpAny_bind (wpAny_newObj_type ?_ (by size_fits));refine wpAny_bind (wpAny_of_eq (by first|rfl|(simp only[firstArgMember];rfl)) ?_);refine t5 (aG (wpAny_handled ?_)) (by size_fits);refine ak (k) (aG (bo (wpAny_throw ?_)));exact aG (SH (bd _ (g4 _ rfl) rfl) isSubtype_stop (bo (l _ (((nT ..).extBut.push _).push _))))
def nF (Y:ar) (bx:Option (Nat×Nat)) (ds:List aj):Prop:=match bx with
 |none=>True
 |some (k,x)=>dW k x Y=ac (.c ds)
def xg (I:bp) (h h':fT):Prop:=∀b o,b≠I→h.get? b=ac o→h'.get? b=ac o
structure kK (c:dq) (I:bp) (G:bM) (ds:List aj) (bx:Option (Nat×Nat)) (P:Nat→fT→Prop):Prop where
 ty:∀{i h},P i h→∃o T,h.get? I=ac o∧o.cls=bn T∧["enumerate","zip","dict_itemiterator","dict_reverseitemiterator","odict_iterator","itertools.zip_longest","itertools.pairwise"].contains T=ai
 keep:∀{i h h'},P i h→(∀o,h.get? I=ac o→h'.get? I=ac o)→P i h'
 next:∀{g L Y s i d Q E},bT bx.isSome G g→aU c g L Y s→g I=ah→P i s.heap→nF Y bx ds→ds[i]? =ac d→(∀{v h' tk},a8 g d v→P (i+1) h'→xg I s.heap h'→Q (ac v) {s with heap:=h',toks:=tk})→aH (aN aC c.w) c.A (uB (am I)) Q E s
 self:∀{g L Y s i Q E},bT bx.isSome G g→aU c g L Y s→g I=ah→P i s.heap→Q (am I) s→aH (aN aC c.w) c.A (km (am I)) Q E s
 done:∀{g L Y s Q E},bT bx.isSome G g→aU c g L Y s→g I=ah→P ds.length s.heap→nF Y bx ds→(∀{h' tk},xg I s.heap h'→Q ah {s with heap:=h',toks:=tk})→aH (aN aC c.w) c.A (uB (am I)) Q E s
theorem zA (t:bj w c) (j:∀{g:bM} {L:au} {Y:ar} {s:ct},bT bx.isSome G g→aU c g L Y s→nF Y bx ds→∃vs n,s.heap.get? ax=ac (d5 vs n)∧dw g ds vs):kK c I G ds bx (fun i h=>h.IsListIter I ax i) where
 ty:=fun z=>eA z fun o a u _=>es o _ a u (by decide)
 keep:=fun⟨o,a,z⟩ k=>bd o (k o a) z
 next:=fun l k n p f d h=>by
  exact bK (j l k f) fun vs m a r=>ay (r.get d) fun v x D=>wpAny_pyNext_list_item p ⟨_,a,rfl,m,rfl⟩ ((pn ..).trans x) fun y q A=>h D q fun b o f a=>(A.2 b f).trans a
 self:=fun l k n p h=>wpAny_pyIter_listiter p h
 done:=fun l k n p f h=>by
  refine bK (j l k f) fun vs m a r=> ?_;exact wpAny_pyNext_list_end t.b p ⟨_,a,rfl,m,rfl⟩ (Rb (by rw[d2,r.len];exact bv _)) fun y e=>h fun b o f a=>e b o f a
theorem L4 (x:bj w c) {m:Nat} (t:G ax=ac (.d (.j ds) (la vs m))) (r:dw G ds vs):kK c I G ds ah (fun i h=>h.IsTupleIter I ax i) where
 ty:=fun z=>eA z fun o a A _=>es o _ a A (by decide)
 keep:=fun⟨o,a,z⟩ k=>bd o (k o a) z
 next:=fun{g _ _ s i _ Q E} l k n p f d h=>by
  have T:=l ax (.d _ _) trivial t;refine ay (r.get d) fun v j D=> ?_;have a:=(k.ok _ _ T).elim fun o h=>h.2.1▸h.1;have j:=(pn ..).trans j;have B:=(Array.getElem?_eq_some_iff.mp j).1;refine(Eo x.b I ax (fun e=>by rw[e,n] at T;injection T) vs.toArray).item i s Q E B ⟨p,_,a,rfl,m,rfl⟩ fun u C F P S y=> ?_;rw[j] at P;injection P with P;subst P;exact h (D.mono l.ld) S.1 fun b o f a=>y b o (fun q=>f (bW.mp q)) a
 self:=fun{g _ _ s i Q E} l k n p h=>by
  have T:=l ax (.d _ _) trivial t;have a:=(k.ok _ _ T).elim fun o h=>h.2.1▸h.1;exact(Eo x.b I ax (fun e=>by rw[e,n] at T;injection T) vs.toArray).self _ s Q E ⟨p,_,a,rfl,m,rfl⟩ h
 done:=fun{g _ _ s Q E} l k n p f h=>by
  have T:=l ax (.d _ _) trivial t;have a:=(k.ok _ _ T).elim fun o h=>h.2.1▸h.1;exact(Eo x.b I ax (fun e=>by rw[e,n] at T;injection T) vs.toArray).done s Q E ⟨by rw[d2,r.len];exact p,_,a,rfl,m,rfl⟩ fun C F y=>h fun b o f a=>y b o (fun q=>f (bW.mp q)) a
theorem I6 (A:bj w c):kK c I G (x.cps.toList.map fun c=>bP ⟨#[c]⟩) ah (fun i h=>h.IsStrIter I (pF x) x t i) where
 ty:=fun z=>eA z fun o j L _=>es o _ j L (by unfold pF;split<;>decide)
 keep:=fun⟨o,j,z⟩ k=>bd o (k o j) z
 next:=fun{g _ _ s i d Q E} l k n p m M h=>by
  refine ay (dX .. ▸M|>dg.mp) fun y D N=> ?_;subst N;have F:i<x.cps.size:=by rw[←q9];exact(hy.mp D).1
  have f:∀v,SignAt x i v→a8 g (bP ⟨#[y]⟩) v:=fun v z=>bK z fun z u B e=>by
   rw[←Rj,D] at B;injection B with B;subst B;exact⟨u,e⟩
  unfold pF at p;split at p
  ·rename_i a;exact(D_ A.b I x t).item i s Q E F p fun v C T P S r=>h (f v P) (by unfold pF;rw[aJ a];exact S) fun b o m j=>r b o (fun q=>m (bW.mp q)) j
  ·rename_i a;exact(Ec A.b I x t).item i s Q E F p fun v C T P S r=>h (f v P) (by unfold pF;rw[aL a];exact S) fun b o m j=>r b o (fun q=>m (bW.mp q)) j
 self:=fun{g _ _ s i Q E} l k n p h=>by
  unfold pF at p;split at p
  ·exact(D_ A.b I x t).self _ s Q E p h
  ·exact(Ec A.b I x t).self _ s Q E p h
 done:=fun{g _ _ s Q E} l k n p m h=>by
  rw[aB,q9] at p;unfold pF at p;split at p
  ·exact(D_ A.b I x t).done s Q E p fun C T r=>h fun b o m j=>r b o (fun q=>m (bW.mp q)) j
  ·exact(Ec A.b I x t).done s Q E p fun C T r=>h fun b o m j=>r b o (fun q=>m (bW.mp q)) j
theorem Hb (m:bj w c) {a b:Int}:kK c I G (f4 a b) ah (fun i h=>IsRangeIter h I (a+(i:Nat)*1) (((b-a).toNat:Int)-(i:Nat)) 1) where
 ty:=fun q=>es _ _ q rfl (by decide)
 keep:=fun q k=>k _ q
 next:=fun{g _ _ s i d Q E} l k n p e z h=>by
  refine ay (dX .. ▸z|>dg.mp) fun j f y=> ?_;subst y;have x:i<(b-a).toNat:=by have:=(hy.mp f).1;rwa[gm] at this
  rw[tX x] at f;injection f with f;subst f;refine(Ep m.b I a 1 (b-a).toNat).item i s Q E x p fun v A T P S r=> ?_;obtain⟨t,rfl⟩:=P;exact h ⟨t,by rw[Int.mul_one]⟩ S fun b o e u=>r b o (fun q=>e (bW.mp q)) u
 self:=fun{g _ _ s i Q E} l k n p h=>(Ep m.b I a 1 (b-a).toNat).self _ s Q E p h
 done:=fun{g _ _ s Q E} l k n p e h=>by
  unfold f4 at p;rw[aB,gm] at p;exact(Ep m.b I a 1 (b-a).toNat).done s Q E p fun A T r=>h fun b o e u=>r b o (fun q=>e (bW.mp q)) u
end
theorem Ph:((l7.map (·.1)).all fun g=> !(d_ g==("__debug__":br)))=true:=by kernel_rfl
theorem l' (h:(!b)=af):b=false:=by cases b<;>first|rfl|exact absurd h Bool.false_ne_true
section
variable{Y:ar}
theorem sT (B:er c.w mg mb) (o:bj w c) (k:aU c G L Y s) (b:l8 c.sc (d_ g)=af) (f:(g,fv)∈l7) (v:(∃i,fv=bJ i)∨∃T,fv=bn T) (e:gL pos (gt a c.env)=(ai,t)::ts) (p:ts.any (·.1)=ai)
  (h:aH (aN aC c.w) c.A (lW ((ai,t)::ts)) (fun vs S=>aH (aN aC c.w) c.A (gN fv vs) Q E S) E s):aH (aN aC c.w) c.A (bO (i1 (ey (d_ g) p') a [] pos) c.env) Q E s:=by
 obtain⟨j,l⟩:=B.blt _ _ f;have d:(d_ g==("__debug__":br))=false:=l' (cH.mp Ph g (cr.mpr ⟨_,f,rfl⟩));refine SL (R_ o.l (o.glob _ (A7 b)) (loadGlobal_builtin (mg:=mg) (mb:=mb) (by rw[o.u];exact k.ns B.ns) j (by rw[o.B];exact k.ns B.a) l ?_) d);rw[e];have p:(((ai,t)::ts).any fun x:Bool×h8 aV=>x.1)=false:=p;rcases v with⟨i,rfl⟩|⟨T,rfl⟩
 ·exact callWith_builtin p (evalArgs_plain h)
 ·exact PyProof.Rows.callWith_type p (evalArgs_plain h)
theorem C' (h:s7 e):gL pos (gt [e] E)=[(ai,bO e E)]:=by rw[h.a];rfl
theorem z_ (h:s7 e) (h':s7 f):gL pos (gt [e,f] E)=(ai,bO e E)::gL pos [(ai,bO f E)]:=by rw[h.a,h'.a];rfl
theorem Op (j:bj w c) (t:G ax=ac (.d (.e s) o)) (d:o.data=k9 E.toArray m) (r:dM (fun p e=>a8 G p.1 e.key) s E):kK c I G (s.map (·.1)) ah (fun i h=>h.IsKeyIter I ax i E.length m) where
 ty:=fun⟨o,a,u,_⟩=>⟨o,_,a,u,by decide⟩
 keep:=fun⟨o,a,z⟩ k=>⟨o,k o a,z⟩
 next:=fun l k n p f v h=>by
  have T:=l ax (.d _ _) trivial t;have a:=(k.ok _ _ T).elim fun o h=>h.2.1▸h.1;obtain⟨q,x,rfl⟩:=dX .. ▸v|>dg.mp;obtain⟨e,g,D⟩:=r.get x;exact Ir p a d g fun y q A=>h (D.mono l.ld) q fun b o f a=>(A.2 b f).trans a
 self:=fun l k n p h=>wpAny_pyIter_keyiter p h
 done:=fun l k n p f h=>by
  have T:=l ax (.d _ _) trivial t;have a:=(k.ok _ _ T).elim fun o h=>h.2.1▸h.1;rw[aB,←r.len] at p;exact Gn j.b p a d fun y g=>h fun b o f a=>g b o f a
theorem I9 (h:mc G s A):∀{E:List eT},Pairs (mI w) E A→dM (fun p e=>a8 G p.1 e.key) s E:=by
 induction h with
 |nil=>intro E p;cases p;exact cI
 |cons a _ i=>intro E p;cases p with
  |cons k _ p=>exact cy (a.1▸zn k) (i p)
theorem O2 (h:oS G k A):dM (fun(p:aj×aj) (e:eT)=>a8 G p.1 e.key) k (A.map (entryOfKey (gS w))):=by
 exact h.rec cI fun a _ i=>cy (a.1▸a.2.1) i
structure v9 (c:dq) (G g:bM) (ds:List aj) (bx:Option (Nat×Nat)) (L:au) (Y:ar) (I:bp) (s:ct):Prop where
 p:bV ai c G g L Y s
 free:g I=ah
 a:∃P,kK c I g ds bx P∧P 0 s.heap
 box:nF Y bx ds
theorem bV.push (p:bV f c G g L Y s) (o:cj) {tk:Nat}:bV ai c G g L Y {s with heap:=s.heap.push o,toks:=tk}:=⟨p.l.low,p.h,p.k.kp (h':=s.heap.push o) (tk:=tk) fun _ _ _ a=>iq o a⟩
theorem IU (k:aU c G L Y s) {a:bp} (f:s.heap.get? a=ac o) (r:cQ c.w G o (.e l)):∃E b,o.ExactDict∧o.data=k9 (Em E) b∧dM (fun(p:aj×aj) (e:eT)=>a8 G p.1 e.key) l E:=
 r.2.elim (fun⟨A,q,d⟩=>by obtain⟨_,E,b,h,g,i,_,j,_⟩:=d _ _ f;obtain rfl:=bD (f.symm.trans h);exact⟨E.toList,b,g,i,I9 q j⟩)
  fun⟨A,q,d⟩=>by obtain⟨_,E,b,h,g,i,j,_⟩:=d _ _ f (rP k.E q);obtain rfl:=bD (f.symm.trans h);exact⟨E.toList,b,g,i,j▸O2 q⟩
theorem GJ (u:bj w c) (p:bV f c G g L Y s) (D:a8 g d v) (N:∀j x,d≠da j x) (e:d.sq Y=ac q) (h:∀{I S},v9 c G g (se q) ah L Y I S→Q (am I) S):aH (aN aC c.w) c.A (km v) Q E s:=by
 have k:=p.k;have n:=k.B;induction d using aj.casesOn with
 |j z=>
  have e:=bD e;subst e;exact k.sqv af D fun a V m i t b r _ _=>i▸wpAny_pyIter_tuple (items:=V.toArray) ⟨_,b,rfl,m,rfl⟩ (h ⟨p.push _,n,⟨_,L4 u t r,⟨_,g4 _ rfl,rfl,rfl⟩⟩,trivial⟩)
 |c z=>
  have e:=bD e;subst e;exact k.sqv ai D fun a V m i t b r _ _=>i▸D9 (items:=V.toArray) ⟨_,b,rfl,m,rfl⟩ (h ⟨p.push _,n,⟨_,zA (ax:=a) u fun{M P R T} l A _=>⟨V,m,(A.ok _ _ (l _ (.d _ _) trivial t)).elim fun o h=>h.1.trans (aS ac h.2.1),dw.mono l.ld r⟩,⟨_,g4 _ rfl,rfl,rfl⟩⟩,trivial⟩)
 |e U=>
  have e:=bD e;subst e;obtain⟨a,o,i,t⟩:=D;obtain⟨W,b,B,r⟩:=k.ok _ _ t;subst i B;exact cF (IU k b r) fun X Z C y F=>IE (k.nmod fun o e=>(nomatch bD (t.symm.trans e))) b C y (h ⟨p.push _,n,⟨_,Op u t y F,⟨_,g4 _ rfl,rfl,rfl⟩⟩,trivial⟩)
 |str x=>
  have e:=bD e;subst e;exact D.elim fun t e=>e▸wpAny_pyIter_strU (h ⟨p.push _,n,⟨_,I6 u (t:=t),⟨_,g4 _ rfl,rfl,rfl⟩⟩,trivial⟩)
 |box j x=>exact aR rfl (N j x)
 |_=>exact nomatch e
theorem sW {a:Int} (h:a.natAbs≤100000): -2^62≤a∧a<2^62:=⟨lQ (Sp (gq.mpr (aD h rfl))) (Int.neg_le_of_neg_le (a.natAbs_neg▸SG)),DV SG (g5.mpr (aD (b3 h) rfl))⟩
theorem BC (o:bj w c) (p:bV f c G g L Y s) {a b:Int} (r:IsRange s.heap R a b 1 t u v) (hz:a.natAbs+b.natAbs≤100000) (h:∀{I S},v9 c G g (f4 a b) ah L Y I S→Q (am I) S):aH (aN aC c.w) c.A (km (am R)) Q E s:=by
 refine wpAny_pyIter_range r (small_one (sW (ao (bu ..) hz)).1 (sW (ao (bu ..) hz)).2 (sW (ao (gH ..) hz)).1 (sW (ao (gH ..) hz)).2) (h ⟨p.push _,p.k.B,⟨_,Hb o, ?_⟩,trivial⟩);have z:To a b 1=((b-a).toNat:Int):=(rangeSize_one ..).trans (dite (a<b) (fun q=>(aJ q).trans (DP (Ed.mpr (ug q))).symm) fun q=>(aL q).trans (aS ER (Int.toNat_eq_zero.mpr (RE (hD.mp q)))).symm);show(s.heap.push _).get? s.heap.objs.size=_;rw[g4 _ rfl,z];simp[oj]
theorem Jy {d:aj} {f:Int→aT} (w:aQ X Z (match d with|.int n=>f n|_=>.a)):∃n,d=ae n∧aQ X Z (f n):=by
 induction d using aj.casesOn with
 |int n=>exact⟨n,rfl,w⟩
 |_=>exact w.elim
@[elab_as_elim] theorem wR {motive:aV→Prop} (D:a8 G d v) (e:d=ae n) (h:∀t,motive (aq n t)):motive v:=by
 subst e;exact D.elim fun t e=>e▸h t
theorem yM (w:aQ X Z (aT.b o fun b=>if b then t else .a)):o.e=ac af∧aQ X Z t:=w.elim fun b h=>by
 have a:=f7 h.2;exact⟨a.1▸h.1,a.2⟩
noncomputable def qK (K:List aj→Option (Nat×Nat)→au→ar→aT) (d:aj) (L:au) (Y:ar):aT:=match d.sq Y with
 |some q=>K (se q) ah L Y
 |none=>.a
noncomputable def wa (K:List aj→Option (Nat×Nat)→au→ar→aT) (j x:Nat) (L:au) (Y:ar):aT:=match dW j x Y with
 |some (.c d)=>K d (ac (j,x)) L Y
 |_=>.a
abbrev oC (X:dS) (Z:d1→Prop) (c:dq) (G:bM) (K:List aj→Option (Nat×Nat)→au→ar→aT) (Q:aV→ct→Prop):Prop:=∀{d b L s g I S},v9 c G g d b L s I S→aQ X Z (K d b L s)→Q (am I) S
theorem Bh (o:bj W c) (p:bV f c G g L Y s) {K:List aj→Option (Nat×Nat)→au→ar→aT} (D:a8 g d v) (n:∀j x,d≠da j x) (w:aQ X Z (qK K d L Y)) (h:oC X Z c G K Q):aH (aN aC c.w) c.A (km v) Q E s:=by
 unfold qK at w;cases e:d.sq Y with
 |none=>rw[e] at w;exact w.elim
 |some q=>rw[e] at w;exact GJ o p D n e fun S=>h S w
theorem J7 (k:bj W c) (p:bV f c G i L Y s) {a:bp} {K:List aj→Option (Nat×Nat)→au→ar→aT} (t:i a=ac (cJ j x)) (w:aQ X Z (wa K j x L Y)) (h:oC X Z c G K Q):aH (aN aC c.w) c.A (km (am a)) Q E s:=by
 unfold wa at w;cases d:dW j x Y with
 |none=>rw[d] at w;exact w.elim
 |some z=>
  rw[d] at w;induction z with
  |e _=>exact w.elim
  |c ds=>
   obtain⟨_,o,m,v,n,rfl,r,_⟩:=p.k.box t d;exact D9 (items:=v.toArray) ⟨_,m,rfl,n,rfl⟩ (h ⟨p.push _,p.k.B,⟨_,zA (ax:=a) (bx:=ac (j,x)) (ds:=ds) k fun{u y S A} l q b=>(q.box (p:=.c ds) (l _ _ (av rfl) t) b).2.elim fun o h=>h.2.elim fun v g=>g.elim fun n g=>⟨v,n,h.1.trans (aS ac g.1),g.2.1⟩,⟨_,g4 _ rfl,rfl,rfl⟩⟩,d⟩ w)
theorem NN (hz:bG x L=ac (bE z)):lu x L=ac (z.frz,f8 x (.l z.frz) L):=by unfold lu;rw[hz]
theorem Ke (hz:bG x L=ac (.a z)):lu x L=none:=by unfold lu;rw[hz]
noncomputable def w3 (K:List aj→Option (Nat×Nat)→au→ar→aT) (x:Nat) (L:au) (Y:ar):aT:=match lu x L with
 |some (d,L)=>qK K d L Y
 |none=>.a
theorem GQ (k:bj W c) (p:bV f c G g L Y s) {a:bp} {K:List aj→Option (Nat×Nat)→au→ar→aT} (t:g a=ac (bQ l x)) (w:aQ X Z (w3 K x L Y)) (h:oC X Z c G K Q):aH (aN aC c.w) c.A (km (am a)) Q E s:=by
 obtain⟨o,e,z,b,r⟩:=p.k.ok _ _ t;unfold w3 at w;induction l with
 |true=>rw[Ke b] at w;exact w.elim
 |false=>
  rw[NN b] at w;refine iD (p.k.frz t b e r) fun i j m n=>Bh k (p.tr (bV.mk i j n)) (d:=z.frz) (by cases z<;>exact m) (by cases z<;>exact nofun) w @h
noncomputable def sd (K:List aj→Option (Nat×Nat)→au→ar→aT) (z:ny) (L:au) (Y:ar):aT:=match z with
 |.slot x=>w3 K x L Y
 |.sq (.box j x)=>wa K j x L Y
 |.sq d=>qK K d L Y
theorem Hs (d:aj):(∃j x,d=da j x)∨((∀j x,d≠da j x)∧∀{K L Y},sd K (dI d) L Y=qK K d L Y):=by
 induction d using aj.casesOn with
 |box j x=>exact av ⟨j,x,rfl⟩
 |_=>exact aI ⟨nofun,rfl⟩
theorem lx.dv (c:lx G (dI d) v) (n:∀j x,d≠da j x):a8 G d v:=c.resolve_right fun z=>BW z fun j x a h=>n j x h.1
theorem K_ (o:bj W c) (p:bV f c G g L Y s) {K:List aj→Option (Nat×Nat)→au→ar→aT} (C:lx g z v) (w:aQ X Z (sd K z L Y)) (h:oC X Z c G K Q):aH (aN aC c.w) c.A (km v) Q E s:=by
 induction z with
 |slot x=>exact bK C fun a l e t=>e▸GQ o p t w @h
 |sq d=>exact(Hs d).elim (fun z=>oy z fun j x e=>by subst e;exact C.bx.elim fun a z=>z.1▸J7 o p z.2 w @h) fun z=>Bh o p (C.dv z.1) z.1 (z.2▸w) @h
theorem IQ (e:qy m=ac E):m=ap 11 E:=by
 unfold qy at e;induction m using bt.casesOn with
 |call g a=>
  have e:cond (d3 g 11) (ac a) ah=ac E:=e;cases h:d3 g 11 with
  |false=>rw[h] at e;exact nomatch e
  |true=>rw[h] at e;rw[jd h,bD e]
 |_=>exact nomatch e
theorem Ow (B:er c.w mg mb) (R:b2 W X Z r) (o:bj W c) {a:bt} (h:b_ c.sc (ap 11 [a]) e=af) {K:List aj→Option (Nat×Nat)→au→ar→aT} (k:aU c G L Y s)
  (w:aQ X Z (r.e a L Y fun d L Y=>match d with|.int n=>aT.b (.le n.natAbs 100000) fun b=>if b then K (f4 0 n) ah L Y else .a|_=>.a)) (q:oC X Z c G K Q):
  aH (aN aC c.w) c.A (bO (bz (ap 11 [a]) e) c.env) (fun v S=>aH (aN aC c.w) c.A (km v) Q E S) E s:=by
 have h:=bS.mp h;have f:=(bS.mp h.2).1;exact sT B o k (bS.mp h.1).1 (fv:=bn "range") (by decide) (aI ⟨_,rfl⟩) (C' (hV f)) rfl (m5 (R o f k w fun p d w=>pG ((Jy w).elim fun n w=>wR d w.1 fun t=>
  (yM w.2).elim fun g w=>call_range_1 (BC o (p.push _) (Sf ..) (by rw[Int.natAbs_zero,jI];exact dB (bD g)) fun i=>q i w))))
theorem Nc (B:er c.w mg mb) (R:b2 W X Z r) (f:bj W c) {a:bt} (h:b_ c.sc (ap 11 [a,b]) m=af) {K:List aj→Option (Nat×Nat)→au→ar→aT} (k:aU c G L Y s)
  (w:aQ X Z (r.e a L Y fun d L Y=>r.e b L Y fun e L Y=>match d,e with|.int i,.int n=>aT.b (.le (i.natAbs+n.natAbs) 100000) fun b=>if b then K (f4 i n) ah L Y else .a|_,_=>.a)) (q:oC X Z c G K Q):
  aH (aN aC c.w) c.A (bO (bz (ap 11 [a,b]) m) c.env) (fun v S=>aH (aN aC c.w) c.A (km v) Q E S) E s:=by
 have h:=bS.mp h;have o:=bS.mp h.2;have g:=(bS.mp o.2).1;refine sT B f k (bS.mp h.1).1 (fv:=bn "range") (by decide) (aI ⟨_,rfl⟩) (z_ (hV o.1) (hV g)) rfl (m5 (R f o.1 k w fun p d w=>m5 (R f g p.k w fun P D w=>pG ?_)));rename_i x _ _ _ _ _ _ j l y _ _ _;have w:∃i,x=ae i∧∃n,j=ae n∧aQ X Z (aT.b (.le (i.natAbs+n.natAbs) 100000) fun b=>if b then K (f4 i n) ah l y else .a):=by
  clear d D p P q;induction x using aj.casesOn with
  |int i=>induction j using aj.casesOn with
   |int n=>exact⟨i,rfl,n,rfl,w⟩
   |_=>exact w.elim
  |_=>exact w.elim
 exact w.elim fun i w=>w.2.elim fun n u=>wR d w.1 fun t=>wR D u.1 fun T=>
  (yM u.2).elim fun z w=>call_range_2 (BC f ((p.tr P).push _) (Sf ..) (dB (bD z)) fun A=>q A w)
theorem Nd {K:List aj→Option (Nat×Nat)→au→ar→aT} (e:qy m=ah):qC r m L Y K=f0 r m L Y (sd K):=by unfold qC;rw[e];rfl
theorem Ad (B:er c.w mg mb) (R:b2 W X Z r) (o:bj W c) (h:b_ c.sc m d=af) {K:List aj→Option (Nat×Nat)→au→ar→aT} (k:aU c G L Y s) (w:aQ X Z (qC r m L Y K)) (q:∀{ds bx l st' g I S},v9 c G g ds bx l st' I S→aQ X Z (K ds bx l st')→Q (am I) S):
  aH (aN aC c.w) c.A (bO (bz m d) c.env) (fun v f=>aH (aN aC c.w) c.A (km v) Q E f) E s:=by
 cases e:qy m with
 |none=>exact lI @R o h k (K:=sd K) (Nd e▸w) fun p C w=>K_ o p C w @q
 |some i=>
  have j:=IQ e;subst j;clear e;rcases i with _|⟨a,_|⟨b,_|_⟩⟩
  ·exact w.elim
  ·exact Ow B @R o h k w @q
  ·exact Nc B @R o h k w @q
  ·exact w.elim
end
theorem wx {q:Nat→Bool}:∀{L:au},bG x (L.filter fun p=>q p.1)=if q x then bG x L else none:=by
 intro L;induction L with
 |nil=>
  cases q x<;>rfl
 |cons X r i=>
  obtain⟨y,s⟩:=X;by_cases h:q y=af
  ·rw[Ds (p:=fun p:Nat×ig=>q p.1) h];show(if y=x then ac s else bG x (r.filter fun p=>q p.1))=if q x=af then(if y=x then ac s else bG x r) else ah
   by_cases e:y=x
   ·subst e;rw[aJ rfl,aJ h,aJ rfl]
   ·rw[aL e,aL e];exact i
  ·rw[Dt (p:=fun p:Nat×ig=>q p.1) h,i];show(if q x=af then bG x r else ah)=if q x=af then(if y=x then ac s else bG x r) else ah
   by_cases e:y=x
   ·subst e;rw[aL h,aL h]
   ·rw[aL e]
section
variable{Y:ar}
theorem aU.cut (k:aU c G L Y s) {q:Nat→Bool} (h:∀x p,bG x L=ac (.a p)→q x=af):∃d,bT af G d∧pg G d∧(∀a,G a=ah→d a=ah)∧aU c d (L.filter fun p=>q p.1) Y s:=by
 have l:bT af G (mN (fun t=>∃x,t=bQ ai x∧q x=ai) G):=zz fun t ⟨x,e,_⟩ u=>by subst e;exact cp u
 refine y6 _ l (fun a f x e=>(fk.mp e).1) (fun a e=> ?_) (k.step (h':=s.heap) l.ls (k.bs l.low) (fun a t e=>aI ⟨(fk.mp e).1,fun _ h=>h,.c (fun f x j=> ?_) fun _ _ _ h=>l _ _ (av rfl) h⟩) (fun a b t u x y=>k.solo a b t u (fk.mp x).1 (fk.mp y).1) fun x S e=> ?_)
 ·unfold mN;refine ak e ?_;rfl
 ·subst j;obtain⟨m,n⟩:=fk.mp e;refine wx.trans (aJ ?_);induction f with
  |true=>obtain⟨_,_,p,z,_⟩:=k.ok _ _ m;exact h x p z
  |false=>exact Bool.not_eq_false _|>.mp fun z=>n ⟨x,rfl,z⟩
 ·rw[wx] at e;by_cases z:q x=af
  ·rw[aJ z] at e;exact(k.fr x S e).imp fun v y=>y.imp (iF.mono l.ls fun _ _ _ h=>h) (jw.mono l.ls fun a _ g=>fk.mpr ⟨g,fun⟨y,e,i⟩=>by cases e;rw[z] at i;injection i⟩)
  ·rw[aL z] at e;injection e
theorem C8:L.all p=af→bG x L=ac sl→p (x,sl)=true:=by
 induction L with
 |nil=>exact fun _ h=>nomatch h
 |cons y r i=>
  intro h e;have h:=bS.mp h;have e:(if y.1=x then ac y.2 else bG x r)=ac sl:=e
  by_cases q:y.1=x
  ·rw[aJ q] at e;rw[←q,←bD e];exact h.1
  ·rw[aL q] at e;exact i h.2 e
theorem tK {K:au→aT} (k:aU c G L Y s) (w:aQ X Z (j3 ns L K)) {P:Prop} (q:∀{g b},bT af G g→(∀a,G a=ah→g a=ah)→aU c g b Y s→aQ X Z (K b)→P):P:=by
 unfold j3 at w;induction e:oT ns L with
 |none=>rw[e] at w;exact w.elim
 |some b=>
  rw[e] at w;obtain⟨h,e⟩:=dx e;injection e with e;subst e;exact qx (k.cut fun x p e=>((dK ..).mp (C8 h e)).resolve_right cp) fun g l _ n d=>q l n d w
noncomputable def sv (s:gM) (t:e4):Bool:=(fG t).all (iH s)
theorem oJ {K:au→aT} (w:aQ X Z (jD x sl L K)):j5 x L=ai∧aQ X Z (K (f8 x sl L)):=by
 unfold jD at w;induction h:j5 x L with
 |true=>rw[h] at w;exact w.elim
 |false=>rw[h] at w;exact⟨rfl,w⟩
theorem As (e:oP x sl L=ac l):j5 x L=ai∧l=f8 x sl L:=by
 unfold oP at e;induction h:j5 x L with
 |true=>rw[h] at e;injection e
 |false=>rw[h] at e;injection e with e;subst e;exact⟨rfl,rfl⟩
theorem Nh (o:bj w c):∀{a:List c6} {ds:List aj} {vs:List aV} {G:bM} {L:au} {s:ct} {Q:Unit→ct→Prop},X.all (iH c.sc)=af→aU c G L Y s→dw G ds vs→qL X ds L=ac l→(∀{g S},bV af c G g l Y S→Q () S)→
  aH (aN aC c.w) c.A (assignInOrder ((EP (p9 X a) c.env).map (·.2)) vs) Q E s:=by
 induction X with
 |nil=>
  intro a ds vs G L s Q _ k D e q;cases D with
  |nil=>injection e with e;subst e;exact bo (q (.of k))
  |cons _ _=>injection e
 |cons x X i=>
  intro a ds vs G L s Q h k D e q;cases D with
  |nil=>injection e
  | @cons d v ds vs j r=>
   obtain⟨m,t⟩:=bS.mp h;refine ay (jG.mp (show(oP x (.l d) L).bind (qL X ds)=ac l from e)) fun z u y=> ?_;obtain⟨n,rfl⟩:=As u;exact aG (eF (D' (sr o k m n j fun A B b I f=>i t f (dw.mono b.ld r) y fun p=>q (bV.tr ⟨b,I,f⟩ p))))
theorem zb:∀{e:List c6},(EP (p9 X e) E).length=X.length∧(EP (p9 X e) E).findIdx? (·.1)=none:=by
 induction X with
 |nil=>exact⟨rfl,rfl⟩
 |cons x X i=>exact⟨aS (·+1) i.1,List.findIdx?_cons.trans (by rw[i.2];rfl)⟩
theorem LJ:∀{ds:List aj} {L l:au},qL X ds L=ac l→X.length=ds.length:=by
 induction X with
 |nil=>intro ds L l e;induction ds<;>first|rfl|injection e
 |cons x X i=>
  intro ds L l e;induction ds using cn with
  |nil=>injection e
  |cons d ds=>
   exact ay (jG.mp (show(oP x (.l d) L).bind (qL X ds)=ac l from e)) fun a _ E=>aS (·+1) (i E)
theorem xn (m:bj W c) (k:aU c G L Y s) {K:au→aT} (y:sv c.sc t=af) (D:a8 G d v) (w:aQ X Z (p0 t d L K)) (q:∀{g u S},bV af c G g u Y S→aQ X Z (K u)→Q () S):aH (aN aC c.w) c.A (uC (mi t e) c.env v) Q E s:=by
 unfold p0 at w;induction f:Bl t d L with
 |none=>have w:=f▸w;exact w.elim
 |some u=>
  rw[f] at w;induction t with
  |a x=>
   obtain⟨N,rfl⟩:=As f;exact D' (sr m k (bS.mp y).1 N D fun g S l i C=>q ⟨l,i,C⟩ w)
  |b R=>
   induction d using aj.casesOn with
   |j T=>
    refine k.sqv af D fun A V n F t h r I z=> ?_;subst F;exact wpAny_assign_Tuple m.b ⟨_,h,rfl,n,rfl⟩ (by rw[zb.1,LJ f,d2,I]) zb.2 fun M P=>Nh m y (k.kp (h':=M) fun B o _ h=>P B o (hZ (ki h)) h) r f fun p=>q p w
   |_=>injection f
end
def oB (G:bM) (f:cR) (F:Flow):Prop:=match f with
 |.next=>F=h6
 |.o=>F=.brk
 |.cont=>F=.cont
 |.h d=>∃v,F=.ret v∧a8 G d v
def r6 (X:dS) (Z:d1→Prop) (c:dq) (b:Bool) (G:bM) (t:au→ar→(cR→au→ar→aT)→aT) (p:h8 Flow):Prop:=
 ∀{L Y s k Q E},aU c G L Y s→aQ X Z (t L Y k)→(∀{f l S g F a},bT b G g→aU c g l S a→oB g f F→aQ X Z (k f l S)→Q F a)→aH (aN aC c.w) c.A p Q E s
theorem bT.le (h:b'=af→b=af) (l:bT b G g):bT b' G g:=fun a t u=>l a t (by
 induction t with
 |box k x=>exact u.imp h id
 |_=>exact u)
theorem bT.same (x:bT b G g) (y:bT b g d):bT b G d:=fun a t u e=>y a t u (x a t u e)
theorem tO (t:G a=ac (.a o)):iU G (kA G a):=fun b u h e=>kr.mpr ⟨(by rintro rfl;rw[t] at e;injection e with e;subst e;exact h),e⟩
section
variable{c:dq} {Y:ar}
set_option backward.match.sparseCases true in
theorem yK (x:∃o T,s.heap.get? I=ac o∧o.cls=bn T∧["enumerate","zip","dict_itemiterator","dict_reverseitemiterator","odict_iterator","itertools.zip_longest","itertools.pairwise"].contains T=ai) (h:Q () s):aH (aN aC c.w) c.A (SV t (am I) v) Q E s:=by
 refine cF x fun o T b d e=> ?_
 have k:aH (aN aC c.w) c.A (do
   let(am r,am a):=(am I,v)|return
   let o←load r
   match o.cls,o.data with
   |.type n,.fields V=>
    if["enumerate","zip","dict_itemiterator","dict_reverseitemiterator","odict_iterator","itertools.zip_longest","itertools.pairwise"].contains n&&V[0]? ==ac (oj a) then
     rule "for.unpacks-the-owned-tuple"
     updateField r 0 dj
   |_,_=>dm ():h8 Unit) Q E s:=by
  induction v with
  |ref a=>
   refine aG (wpAny_load b (ak d ?_));cases o.data with
   |fields V=>
    dsimp only;rw[e,ye];exact bo h
   |_=>exact bo h
  |_=>exact bo h
 induction t using PySem.Expr.casesOn with
 |Tuple=>exact k
 |List=>exact k
 |_=>exact bo h
theorem G5 (h:gy bx ds Y=af):nF Y bx ds:=by
 induction bx with
 |none=>trivial
 |some p=>
  have h:(match dW p.1 p.2 Y with|some (.c E)=>hX E ds|_=>ai)=true:=h
  show dW p.1 p.2 Y=_;induction a:dW p.1 p.2 Y with
  |none=>rw[a] at h;exact aR h cp
  |some q=>
   rw[a] at h;induction q with
   |c E=>rw[Fx _ _ h]
   |e _=>exact aR h cp
theorem aU.but (k:aU c G L Y s) (n:G I=ah) (z:xg I s.heap h) {tk:Nat}:aU c G L Y {s with heap:=h,toks:=tk}:=k.kp fun b o t=>z b o fun e=>by rw[e,n] at t;exact cp t
structure Mp (X:dS) (c:dq) (G:bM) (r:gE) (b:List eo) (t:e4) (ds:List aj) (bx:Option (Nat×Nat)) (ns:List Nat) (z:d1) (I:bp) (P:Nat→fT→Prop) (s:ct) (i:Nat) (g:bM) (L:au) (S:ar):Prop where
 le:i≤ds.length
 w:aQ X (·=z) (kU r b t (gy bx ds) ns (ds.drop i) L S dV)
 l:bT bx.isSome G g
 k:aU c g L S s
 n:g I=ah
 p:P i s.heap
 a:nF S bx ds
noncomputable abbrev GA (r:gE) (b:List eo) (t:e4) (ds:List aj) (bx:Option (Nat×Nat)) (ns:List Nat) (i:Nat) (L:au) (Y:ar):aT:=if gy bx ds Y then j3 ns L (fun L=>kU r b t (gy bx ds) ns (ds.drop (i+1)) L Y dV) else .a
theorem CA (d:kK c I G ds bx P) (l:bT bx.isSome G A) (a:i<ds.length) (p:P (i+1) h) (e:h.get? I=ac o) (T:g I=ac (.a o)) (k:aU c g L Y s) (f:aU c (kA g I) L Y s) (j:bT bx.isSome G (kA g I))
  (w:aQ X (·=z) (GA r b t ds bx ns i L Y)):∃m,m<ds.length-i∧∃i g q S,m=ds.length-i∧Mp X c G r b t ds bx ns z I P s i g q S:=
 (f7 w).elim fun u w=>tK f w fun v n x w=>⟨ds.length-(i+1),RJ a (lO i),i+1,_,_,Y,rfl,a,w,j.same (v.le fun _=>rfl),x,n I s_,d.keep p fun B y=>(bD (e.symm.trans y))▸(k.ok _ _ T).elim fun o z=>z.2▸z.1,G5 u⟩
theorem EV (S:∀{Z G},r6 X Z c b G (r.ss B) (execs E c.env)) (π:bj W c) (ρ:sv c.sc t=af) {ds:List aj} (σ:bx.isSome=af→b=af) (a:kK c I G ds bx P)
  (h:∀{f η g},bT ai G g→aU c g z.2.1 z.2.2 η→oB g z.1 f→R (jJ f) η) (k:aU c G L Y s) (n:G I=ah) (p:P 0 s.heap) (θ:nF Y bx ds) (w:aQ X (·=z) (kU r B t (gy bx ds) ns ds L Y dV)):
  oi (aN aC c.w) c.A (.forLoop (mi t e) (am I) E [] c.env) R s:=by
 refine codeAny_forLoop_any (fun j s=>∃i x N Q,j=ds.length-i∧Mp X c G r B t ds bx ns z I P s i x N Q) ?_ ds.length ⟨0,G,L,Y,rfl,cA _,w,.f,k,n,p,θ⟩;clear w k n p θ;refine fun j s q=>sp q ?_;clear q;intro i x N Q e q;subst e;have w:=q.w;by_cases ι:i=ds.length
 ·subst ι;rw[R9] at w;have w:(a',N,Q)=z:=w;exact a.done q.l q.k q.n q.p q.a fun U=>Eh (h q.l.low (w▸q.k.but q.n U) (w▸rfl))
 ·have A:=rb q.le ι;rw[Q5 A] at w;refine a.next q.l q.k q.n q.p q.a (cS A) fun D C U=>(a.ty C).elim fun V u=>yK (a.ty C) ?_;have u:=u.elim fun T h=>h.1;have κ:=fun tk=>q.k.but q.n U (tk:=tk);have μ:bT af x (dt x I (.a V)):=jX q.n;refine xn π ((κ _).keep q.n u) ρ (D.mono μ.ld) (vB w) fun α w=>S α.k w fun ν β F w=> ?_;have M:=ν I (.a V) trivial (α.l I (.a V) trivial hL);have m:=β.rm ((κ 0).gb q.n) M;have γ:=q.l.same ((r0 (((μ.le fun _=>rfl).same (α.l.le fun _=>rfl)).same ν) q.n).le σ);have ξ {f5 δ ε ζ} (m:aU c _ δ ε ζ) (w:aQ X (·=z) (j3 ns δ fun L=>.h (f5,L,ε))) {f} (F:∀{g},iU _ g→oB g f5 f):R (jJ f) ζ:=tK m w fun ο _ τ w=>h (γ.tr ο) ((show _=z from w)▸τ) ((show _=z from w)▸F ο.ld);rename_i f5 δ ε υ f ζ;induction f5 with
  |next=>rw[show f=h6 from F];exact CA a q.l A C u M β m γ w
  |cont=>rw[show f=.cont from F];exact CA a q.l A C u M β m γ w
  |o=>rw[show f=.brk from F];exact ξ m w fun _=>rfl
  |h d=>refine ay F fun v y D=> ?_;rw[y];exact ξ (f5:=.h d) m w fun l=>⟨v,rfl,(D.mono (tO M)).mono l⟩
end
section
variable{Y:ar}
structure PL (X:dS) (c:dq) (G:bM) (r:gE) (x:bt) (b:List eo) (ns:List Nat) (z:d1) (j:Nat) (s:ct) (g:bM) (L:au) (S:ar):Prop where
 w:aQ X (·=z) (mn r x b ns dV j L S)
 l:bT ai G g
 k:aU c g L S s
theorem z8 (l:bT ai G g) (k:aU c g L Y s) (w:aQ X (·=z) (j3 ns L fun L=>mn r x b ns dV j L Y)):∃m,m<j+1∧∃g a S,PL X c G r x b ns z m s g a S:=
 tK k w fun d _ e w=>⟨j,lO j,_,_,_,w,l.tr d,e⟩
theorem L3 (T:∀{Z},hI W X Z r) (Q:bj W c) (U:b_ c.sc x E=af) (S:∀{Z G},r6 X Z c bb G (r.ss b) (execs V c.env))
  (h:∀{f B g},bT ai G g→aU c g z.2.1 z.2.2 B→oB g z.1 f→R (jJ f) B) (k:aU c G L Y s) (w:aQ X (·=z) (mn r x b ns dV j L Y)):oi (aN aC c.w) c.A (.whileLoop (bz x E) V [] c.env) R s:=by
 refine codeAny_whileLoop (fun j s=>∃C I M,PL X c G r x b ns z j s C I M) (fun j γ q=>BW q fun C I M q=> ?_) j ⟨G,L,Y,w,.f,k⟩;induction j using ir with
 |zero=>exact q.w.elim
 |succ j=>
  refine T Q U q.k (vB q.w) fun p e w=> ?_;subst e;have N:=q.l.tr p.l;have i {m f5 n u A} (l:bT ai G m) (k:aU c m n u A) (w:aQ X (·=z) (j3 ns n fun L=>.h (f5,L,u))) {f} (F:∀{g},iU m g→oB g f5 f):R (jJ f) A:=tK k w fun P _ α w=>h (l.tr P) ((show _=z from w)▸α) ((show _=z from w)▸F P.ld);rename_i t _ _ _ _;induction t with
  |false=>exact Eh (i (f5:=a') N p.k w fun _=>rfl)
  |true=>
   refine S p.k w fun β a F w=> ?_;rename_i f5 n u δ f A;have l:=N.tr β;induction f5 with
   |next=>rw[show f=h6 from F];exact z8 l a w
   |cont=>rw[show f=.cont from F];exact z8 l a w
   |o=>rw[show f=.brk from F];exact i (f5:=a') l a w fun _=>rfl
   |h d=>refine ay F fun v y D=> ?_;rw[y];exact i (f5:=.h d) l a w fun l=>⟨v,rfl,D.mono l⟩
end
variable{wn:bZ×Nat}
theorem Mx:gp ".0"∉fW:=by decide+kernel
theorem Jc (h:x<fW.length):cc x≠gp ".0":=fun e=>Mx (e▸uS h)
theorem Oe {l:List (br×lV)}:(l.map (·.1)).Nodup→(x,k)∈l→l.lookup x=ac k:=by
 induction l with
 |nil=>exact fun _ h=>nomatch h
 |cons p r i=>
  intro n h;have n:=gn.mp n;refine ak fP ?_;rcases eS.mp h with e|e
  ·rw[←e,beq_self_eq_true]
  ·rw[beq_eq_false_iff_ne.mpr fun q=>n.1 (List.mem_map.mpr (bd _ e q))];exact i n.2 e
noncomputable def hJ (e:od):List (br×lV)→List (br×bp)→List (br×bp)
 |[],a=>a
 |(x,k)::r,a=>if k==d' then hJ e r ((x,(e.cells.lookup x).getD 0)::a) else hJ e r a
theorem H':∀(n:List (br×lV)) (acc:List (br×bp)),(∀p∈n,p.2=d'→∃c,e.cells.lookup p.1=ac c)→
  (forIn n acc fun(x:br×lV) (cs:List (br×bp))=>(match x with|(name,d)=>if(d==d')=af then(do let a←cellOf e name;dm (nZ ((name,a)::cs))) else dm (nZ cs):h8 (ForInStep (List (br×bp)))))=dm (hJ e n acc):=by
 intro n;induction n with
 |nil=>
  refine fun acc _=>ak List.forIn_nil ?_;rfl
 |cons X r i=>
  intro acc h;obtain⟨x,k⟩:=X;rw[D8];refine(?_:_=(dm (if k==d' then hJ e r ((x,(e.cells.lookup x).getD 0)::acc) else hJ e r acc):h8 _))
  by_cases g:k=d'
  ·subst g;obtain⟨c,j⟩:=h (x,d') kZ rfl;have b:cellOf e x=dm c:=by unfold cellOf;refine ak j ?_;rfl
   simp only[iX,if_true,b,j];exact i _ fun p f=>h p (je _ f)
  ·have b:(k==d')=false:=by simpa using g
   simp only[b,x0,if_false];exact i _ fun p f=>h p (je _ f)
theorem KN (h:∀p∈s.names,p.2=d'→∃c,e.cells.lookup p.1=ac c):closureFor s e=dm (hJ e s.names []):=(show _=(dm (hJ e s.names [])>>=fun C=>dm C) from aS (fun m=>m>>=fun C=>dm C) (H' s.names [] h))
theorem HE:∀{n:List (br×lV)} {acc:List (br×bp)},x∉n.map (·.1)→(hJ e n acc).lookup x=acc.lookup x:=by
 intro n;induction n with
 |nil=>
  intro acc _;exact rfl
 |cons X r i=>
  intro acc h;obtain⟨y,k⟩:=X;rw[eE,eS,not_or] at h;refine(?_:(if k==d' then hJ e r ((y,(e.cells.lookup y).getD 0)::acc) else hJ e r acc).lookup x=_)
  split
  ·rw[i h.2,fP,c5.mpr h.1]
  ·exact i h.2
theorem Nl (a:E.cells.lookup x=ac c):∀{acc:List (br×bp)},(N.map (·.1)).Nodup→N.lookup x=ac d'→(hJ E N acc).lookup x=ac c:=by
 induction N with
 |nil=>exact fun _ h=>nomatch h
 |cons p r i=>
  intro acc n h;have n:=gn.mp n;have h:=fP.symm.trans h;induction b:x==p.1 with
  |true=>
   rw[b] at h;refine(?_:(if p.2==d' then hJ E r ((p.1,(E.cells.lookup p.1).getD 0)::acc) else hJ E r acc).lookup x=ac c)
   rw[bD h,←dL.mp b,aJ (show(d'==d')=af from rfl),HE (dL.mp b▸n.1),fP,iX,a];rfl
  |false=>
   rw[b] at h;exact dite (p.2==d') (fun e=>(aS (kj x) (aJ e)).trans (i n.2 h)) fun e=>(aS (kj x) (aL e)).trans (i n.2 h)
theorem Ky {f:br→lV→lV}:∀(N:List (br×lV)) (x:br),(N.map fun p=>(p.1,f p.1 p.2)).lookup x=(N.lookup x).map (f x):=by
 intro N;induction N with
 |nil=>
  exact fun x=>rfl
 |cons X r i=>
  intro x;obtain⟨n,k⟩:=X;refine ak eE (ak fP (ak fP ?_));induction h:x==n with
  |true=>refine ak (dL.mp h) ?_;rfl
  |false=>exact i x
theorem Fj (s:gM) (e:od) (x:br):(yF s e).names.lookup x=(s.names.lookup x).map fun k=>if(k==d'&&e.scope.kind==k4&&e.kindOf x==ac gu) then gu else k:=by
 rw[←Ky (f:=fun x k=>if(k==d'&&e.scope.kind==k4&&e.kindOf x==ac gu) then gu else k) s.names x]
 congr 1;refine Rz fun p _=> ?_;obtain⟨n,k⟩:=p;dsimp only;split<;>rfl
structure uR (S s:gM) (t:e4):Prop where
 l:s.kind=k4
 C:fG t≠[]
 keys:(s.names.map (·.1)).Nodup
 nd:(fG t).Nodup
 tl:∀i∈fG t,fm s i=ac g6
 all:∀p∈s.names,(p.2=g6∧(p.1∈(fG t).map cc∨p.1=gp ".0"))∨(p.2=d'∧p.1∈fW∧(S.names.lookup p.1=ac gu∨S.names.lookup p.1=ac d'))∨p.2=pC
theorem HR (h:wi s S t=af):uR s S t:=by
 unfold wi at h;have⟨h,b⟩:=bS.mp h;have⟨h,d⟩:=bS.mp h;have⟨h,f⟩:=bS.mp h;have⟨h,g⟩:=bS.mp h;have⟨j,a⟩:=bS.mp h;refine⟨dB j,fun e=>by rw[e] at a;exact cp a,dB g,dB f,fun i l=>dB (cH.mp d i l),fun p m=> ?_⟩;have:=cH.mp b p m;obtain⟨y,k⟩:=p;induction k<;>first|exact absurd this Bool.false_ne_true|skip
 ·exact .inl ⟨rfl,((Bool.or_eq_true ..).mp this).imp of_decide_eq_true of_decide_eq_true⟩
 ·have this:=Bool.and_eq_true_iff.mp this;exact .inr (.inl ⟨rfl,of_decide_eq_true this.1,((Bool.or_eq_true ..).mp this.2).imp of_decide_eq_true of_decide_eq_true⟩)
 ·exact .inr (.inr rfl)
section
variable{c:dq} {Y:ar}
noncomputable def dq.comp (c:dq) (s:gM) (t:e4) (C:bp):dq:={c with pl:=fun x=>if x∈fG t then hG C else c.pl x,sc:=s,env:=uw s (hJ c.env s.names []) C c.env}
theorem lq (h:fm s x=ac k):s.names.lookup (cc x)=ac k:=by
 unfold fm at h;rwa[aJ (kO h)] at h
theorem tM (a:x<fW.length) (h:s.names.lookup (cc x)=ac k):fm s x=ac k:=by
 unfold fm;exact ak (aJ a) h
theorem OB (k:bj wn c) (o:uR c.sc s t) (h:fm s x=ac d'):x∉fG t∧((fm c.sc x=ac gu∧c.env.kindOf (cc x)=ac gu)∨fm c.sc x=ac d')∧∃a,c.env.cells.lookup (cc x)=ac a∧c.pl x=gQ a:=by
 refine⟨fun i=>(by have h:=o.tl x i▸h;cases h), ?_⟩;rcases o.all _ (hW (lq h)) with⟨q,_⟩|⟨_,_,q|q⟩|q
 ·injection q
 ·have e:=tM (kO h) q;exact⟨.inl ⟨e,(k.cell x e).1⟩,(k.cell x e).2⟩
 ·have e:=tM (kO h) q;exact⟨.inr e,(k.free x e).2⟩
 ·injection q
theorem Bf {a b:bp} (h:hG a=gQ b):False:=cast (aS (fun p:xw=>xw.casesOn (motive:=fun _=>Prop) p (fun _=>True) fun _=>False) h) trivial
theorem bj.comp (m:bj wn c) (o:uR c.sc s t) (C:bp):bj wn (c.comp s t C):=by
 have w:∀x,(uw s (hJ c.env s.names []) C c.env).kindOf x=(s.names.lookup x).map fun k=>if(k==d'&&c.env.scope.kind==k4&&c.env.kindOf x==ac gu) then gu else k:=fun x=>Fj s c.env x
 refine⟨m.r,o.l,m.u,m.B,fun x h=> ?_,fun x h=> ?_,fun x h=> ?_,fun y h=> ?_,fun x y a E F h g=> ?_,m.b,m.d,m.j⟩
 ·have h:fm s x=ac g6:=h;refine⟨(w _).trans (by rw[lq h];rfl),aJ ?_⟩;rcases o.all _ (hW (lq h)) with⟨_,q|q⟩|⟨q,_⟩|q
  ·refine ay (List.mem_map.mp q) fun i A e=> ?_;rw[←wg (kO (o.tl i A)) (kO h) e];exact A
  ·exact aR q (Jc (kO h))
  ·injection q
  ·injection q
 ·have h:=h;rcases o.all _ (hW (lq h)) with⟨q,_⟩|⟨q,_⟩|q<;>injection q
 ·have h:fm s x=some .free:=h;obtain⟨n,q,a,G,I⟩:=OB m o h;refine⟨?_,a,Nl G o.keys (lq h),(if_neg n).trans I⟩;show(compEnvC s (hJ c.env s.names []) C c.env).kindOf (cc x)=_∨(compEnvC s (hJ c.env s.names []) C c.env).kindOf (cc x)=_;rw[w,lq h];dsimp only[Option.map_some];split
  ·exact .inl rfl
  ·exact .inr rfl
 ·have h:s.names.lookup y=some .globalImplicit:=h;exact(w _).trans (by rw[h];rfl)
 ·have e {z:Nat} (h:(if z∈fG t then xw.loc C else c.pl z)=.cell a):c.pl z=.cell a:=by
   by_cases D:z∈fG t
   ·rw[if_pos D] at h;exact(Bf h).elim
   ·rwa[if_neg D] at h
  exact m.sep x y a E F (e h) (e g)
theorem u8 {C:bp} (h:x∉fG t):(c.comp s t C).pl x=c.pl x:=aL h
theorem aU.into (k:aU c G L Y s) {C:bp} (T:G C=ac eH) (h:∀x∈fG t,bG x L=ah):aU (c.comp S t C) G L Y s:=
 ⟨k.same,k.ok,k.solo,k.base,fun x=>by
  by_cases a:x∈fG t
  ·exact ak (show(c.comp S t C).pl x=hG C from aJ a) T
  ·refine ak (u8 a) ?_;exact k.vis x,
  fun x l e=>(k.fr x l e).imp fun v y=>y.imp_left fun y=>(u8 fun a=>nomatch(h x a).symm.trans e).symm▸y⟩
theorem aU.outof {C:bp} (k:aU (c.comp d t C) G L Y s) (v:∀x,match c.pl x with|.loc a=>G a=ac eH|.cell a=>G a=ac gP) (h:∀x∈fG t,bG x L=ah):aU c G L Y s:=
 ⟨k.same,k.ok,k.solo,k.base,v,fun x S e=>(k.fr x S e).imp fun v y=>y.imp_left fun y=>u8 (fun b=>nomatch(h x b).symm.trans e)▸y⟩
end
section
variable{c:dq} {Y:ar}
theorem BV {K:au→aT} (k:aU c G L Y s) (w:aQ X Z (qQ a L K)) {P:Prop} (q:∀{g b},bV af c G g b Y s→(∀x∈a,bG x b=ah)→aQ X Z (K b)→P):P:=by
 obtain⟨h,w⟩:=f7 w;refine qx (k.cut (q:=fun x=> !a.contains x) fun x p e=>((dK ..).mp (C8 h e)).resolve_right cp) fun g l i n d=> ?_;exact q ⟨l,i,d⟩ (fun x f=>(wx (q:=fun x=> !a.contains x)).trans (aL fun z=>aR (l' z) (by refine ak (ee.mpr f) ?_;exact nofun))) w
theorem Ge {a:List c6} (q:Q ai s):aH (aN aC c.w) c.A (forIn a ai fun e r=>if r=af then do let o←lX e v (bO e v);dm (nZ o) else dm (nZ r)) Q E s:=by
 induction a with
 |nil=>exact bo q
 |cons e a i=>rw[D8];exact aG (bo i)
theorem Ih (T:hI W X Z r) (o:bj W c) {i:List bt}:∀{a:List c6} {G:bM} {L:au} {Y:ar} {s:ct} {K:Bool→au→ar→aT} {Q:Bool→ct→Prop},eM c.sc i a=af→aU c G L Y s→aQ X Z (y1 r i L Y K)→
  (∀{b l st' g S},bV ai c G g l st' S→aQ X Z (K b l st')→Q b S)→aH (aN aC c.w) c.A (forIn (dJ i a) af fun e r=>if r=af then do let o←lX e c.env (bO e c.env);dm (nZ o) else dm (nZ r)) Q E s:=by
 induction i with
 |nil=>exact fun _ k w q=>bo (q (.of k) w)
 |cons m M I=>
  intro a G L Y s K Q h k w q;obtain⟨d,f⟩:=bS.mp h;refine(?_:aH _ _ (forIn (bz m (a.headD fy)::dJ M a.tail) af _) Q E s);rw[D8];refine aG (aG (T o d k w fun p e w=>bo ?_));subst e;rename_i b _ _ _ _;induction b with
  |true=>exact I f p.k w fun P w=>q (p.tr P).low w
  |false=>exact Ge (q p.low w)
theorem O5 (I:Nat→ct→Prop)
  (T:∀n s,I n s→∀E:aV→ct→Prop,aH (aN aC c.w) c.A (uB i) (fun r S=>match r with
   |none=>R (jJ h6) S
   |some v=>aH (aN aC c.w) c.A (SV t i v) (fun _ f=>aH (aN aC c.w) c.A (uC t b v) (fun _ g=>
     aH (aN aC c.w) c.A (forIn q af fun e r=>if r=af then do let o←lX e b (bO e b);dm (nZ o) else dm (nZ r)) (fun o d=>
      cond o (aH (aN aC c.w) c.A (bO u b) (fun x j=>aH (aN aC c.w) c.A (gN (bJ "list.append") [acc,x]) (fun _ k=>∃m,m<n∧I m k) E j) E d)
       (∃m,m<n∧I m d)) E g) E f) E S) E s)
  (n:Nat) (h:I n s):oi (aN aC c.w) c.A (.compLoop (pI u [⟨t,C,q,0⟩] D pos) 0 i acc b) R s:=by
 refine codeAny_loop rfl I (fun n s w=>(wpAny_noted ?_)) n h;rw[compTurn_list];refine aG (fw (aG (d9 (T n s w _) (fun r S l=> ?_) fun _ _ a=>a)));induction r with
 |none=>exact bo l
 |some v=>
  refine aG (d9 l (fun _ f y=>aG (d9 y (fun _ g z=>aG (d9 z (fun o d p=> ?_) fun _ _ a=>a)) fun _ _ a=>a)) fun _ _ a=>a);induction o with
  |false=>exact bo ⟨rfl,p⟩
  |true=>exact aG (aG (d9 p (fun x j A=>aG (d9 A (fun _ k B=>bo (bo ⟨rfl,B⟩)) fun _ _ a=>a)) fun _ _ a=>a))
structure xx (X:dS) (r:gE) (c:dq) (G:bM) (e:bt) (t:e4) (h:List bt) (F:d1) (ds:List aj) (I D:bp) (P:Nat→fT→Prop) (i:Nat) (s:ct) (g:bM) (L:au) (Y:ar) (us:List aV) (f:List aj):Prop where
 le:i≤ds.length
 p:bV ai c G g L Y s
 b:g I=ah
 d:g D=ah
 a:P i s.heap
 ho:∃n,s.heap.get? D=ac (d5 us n)
 dv:dw g f us
 len:f.length≤i
 w:∃K,(∀ws L Y,K ws L Y=dV (.h (.c (f++ws))) L Y)∧aQ X (·=F) (qG r e t h (ds.drop i) L Y K)
theorem aU.turn {C D:bp} {K:au→aT} (k:aU c G L Y s) (n:G I=ah) (N:G D=ah) (b:g I=ac (.a m)) (T:g D=ac (.a r)) (M:bT ai G g) (i:pg G g) (v:D≠I) (P:bV ai (c.comp α t C) g R U V S) (w:aQ X Z (qQ (fG t) U K)) {Q:Prop}
  (q:∀{d y},iU R d→bV ai c G d y V S→d I=ah→d D=ah→S.heap.get? I=ac m→S.heap.get? D=ac r→aQ X Z (K y)→Q):Q:=by
 refine BV P.k w fun{β γ} p W w=> ?_;have l:=P.l.tr p.l;have b:=l I (.a m) trivial b;have T:=l D (.a r) trivial T;have A:=M.tr l;have j:=p.k.outof (fun x=>by have:=k.vis x;revert this;cases c.pl x<;>exact A.ls _ _ trivial) W;have F:=kr.mpr ⟨v.symm,b⟩;exact q (fun a u h e=>(tO F) a u h ((tO T) a u h (p.l.ld a u h e))) ⟨r0 (r0 A N) n,fun a f x e=>i a f x (P.h a f x (p.h a f x (kr.mp (kr.mp e).2).2)),(j.rm (k.gb N) T).rm (k.gb n) F⟩ s_ ((aL v).trans s_) ((j.ok _ _ b).elim fun o z=>z.2▸z.1) ((j.ok _ _ T).elim fun o z=>z.2▸z.1) w
theorem Am {D:bp}:pg G (dt (dt G I (.a o)) D (.a p)):=fun a f x e=>(gk e).elim (fun e=>nomatch e.2) fun e=>(gk e.2).elim (fun e=>nomatch e.2) fun e=>e.2
theorem bV.comp {C:bp} (p:bV b c g G L Y s) (T:G C=ac eH) (h:∀x∈fG t,bG x L=ah):bV b (c.comp S t C) g G L Y s:=⟨p.l,p.h,p.k.into T h⟩
def wy (X:dS) (r:gE) (c:dq) (G:bM) (e:bt) (t:e4) (a:List bt) (F:d1) (ds:List aj) (I D:bp) (P:Nat→fT→Prop) (j:Nat) (s:ct):Prop:=∃i g L S u d,j=ds.length-i∧xx X r c G e t a F ds I D P i s g L S u d
theorem wy.el {D:bp} {Q:Prop} (q:wy X r c G e t a F ds I D P j s) (h:∀i g L S us d,j=ds.length-i→xx X r c G e t a F ds I D P i s g L S us d→Q):Q:=q.elim fun i q=>NX q (h i)
theorem A5 {D:bp} (h:i<ds.length) (q:xx X r c G e t f F ds I D P (i+1) s g L Y us n):∃m,m<ds.length-i∧wy X r c G e t f F ds I D P m s:=⟨_,RJ h (lO i),i+1,_,_,_,_,_,rfl,q⟩
theorem Kf (R:∀{Z},b2 W X Z r) (T:∀{Z},hI W X Z r) (ε:bj W c) (o:uR c.sc S t) (a₃:b_ S E a₄=af) (a₅:eM S ζ a₆=af) {I D C:bp} (ο:ds.length≤b4) (a:D≠I) (A:kK c I G ds ah P) (a₇:G C=ac eH) {RR:Result→ct→Prop}
  (F:∀{η θ us n},bV ai c G θ l st' η→θ D=ah→η.heap.get? D=ac (d5 us n)→dw θ vs us→vs.length≤b4→RR (jJ h6) η) (π:xx X r c G E t ζ (.h (.c vs),l,st') ds I D P 0 s G L Y [] []):
  oi (aN aC c.w) c.A (.compLoop (pI (bz E a₄) [⟨mi t et,ei,dJ ζ a₆,0⟩] S pos) 0 (am I) (am D) (uw S (hJ c.env S.names []) C c.env)) RR s:=by
 refine O5 (wy X r c G E t ζ (.h (.c vs),l,st') ds I D P) ?_ _ ⟨0,_,_,_,_,_,rfl,π⟩;clear π;refine fun j s q c₀=>q.el ?_;clear q;intro i g M u us d e q;subst e;have k:=q.p.k;refine q.ho.elim fun n β=>q.w.elim fun K w=>w.elim fun ι w=> ?_;by_cases ρ:i=ds.length
 ·subst ρ;rw[R9] at w;have w:K [] M u=K [] M u∧aQ X (·=(.h (.c vs),l,st')) (K [] M u):=⟨rfl,w⟩;rw[ι,c8] at w;have w:(cR.h (.c d),M,u)=(cR.h (.c vs),l,st'):=w.2;have e:d=vs:=by have h:=aS (·.1) w;injection h with h;injection h
  exact A.done q.p.l k q.b q.a trivial fun B=>F ((show M=l from aS (·.2.1) w)▸(show u=st' from aS (·.2.2) w)▸⟨q.p.l,q.p.h,k.but q.b B⟩) q.d (B _ _ a β) (e▸q.dv) (e▸ao q.len ο)
 ·have z:=rb q.le ρ;rw[Q5 z] at w;refine A.next q.p.l k q.b q.a trivial (cS z) fun a₈ κ B=>(A.ty κ).elim fun Q γ=>yK (A.ty κ) ?_;have γ:=γ.elim fun T h=>h.1;have N:=q.b;have σ:dt g I (.a Q) D=none:=(hN a).trans q.d;have μ:bT af g (dt (dt g I (.a Q)) D (.a (d5 us n))):=(jX (b:=af) N).trans (jX σ);refine BV (((k.but N B (tk:=‹Nat›)).keep N γ).keep σ (B _ _ a β)) (vB w) fun{a₉ b₀} p b₁ w=> ?_;have τ:=μ.trans p.l;have p:bV af (c.comp S t C) _ a₉ b₀ u _:=p.comp (τ.ls _ _ trivial (q.p.l.ls _ _ trivial a₇)) b₁;refine xn (ε.comp o C) p.k (cH.mpr fun x b₂=>(dK ..).mpr (av (cu (o.tl x b₂)))) (a₈.mono τ.ld) w fun υ w=>Ih T (ε.comp o C) a₅ υ.k w fun U w=> ?_;rename_i b c₁ b₃ c₂ c₃;have U:=(p.tr υ).tr U;have φ:dt (dt g I (.a Q)) D (.a (d5 us n)) I=ac (.a Q):=(hN a.symm).trans hL;have χ {h:fT} (V:h.get? I=ac Q):=A.keep κ (h':=h) fun c₄ ν=>(bD (γ.symm.trans ν))▸V;induction b with
  |false=>exact k.turn N q.d φ hL μ.low Am a U.low (K:=fun L=>dV (.h (.c [])) L b₃) w fun ψ δ b₄ b₅ V α w=>A5 z ⟨z,(q.p.tr δ).low,b₄,b₅,χ V,⟨n,α⟩,q.dv.mono δ.l.ld,re q.len,_,fun ω=>ι ω,w⟩
  |true=>
   refine R (ε.comp o C) a₃ U.k w fun{c₅ c₆ c₇ c₈ v b₆} δ b₇ w=>k.turn N q.d φ hL μ.low Am a (U.tr δ).low w fun{_ _} ψ a₀ b₈ a₁ V α w=> ?_;refine ob Dn (bd _ α rfl) QZ (QT _ _) (RI D us.toArray n v (by rw[d2,q.dv.len];exact ka (ao q.len (ao q.le ο)))) ⟨α, ?_⟩;have a₂:=nT b₆.heap D (ul fun y=>y.push v);have ξ:=(q.p.tr a₀).low;exact(tn (f:=fun y=>y.push v) α (RT ..)).elim fun m b₉=>A5 z ⟨z,⟨ξ.l,ξ.h,ξ.k.but a₁ fun b o ν β=>(a₂.2 b ν).trans β⟩,b₈,a₁,χ ((a₂.2 I a.symm).trans V),⟨m,b₉⟩,(cy (b₇.mono ψ) cI).app (q.dv.mono a₀.l.ld),by rw[bi];exact b3 q.len,_,fun ω L Y=>(ι _ L Y).trans (by rw[ef]),w⟩
end
section
variable{Y:ar}
def uP (c:dq) (E:aV→ct→Prop) (U:Option (aV→h8 Unit)) (Q:aV→ct→Prop) (a:aV) (C:bp) (s:ct):Prop:=match U with
 |none=>∃m,s.heap.Ns C m∧∀h M,h.Ns C M→hC C s.heap h→Q a {s with heap:=h}
 |some u=>aH (aN aC c.w) c.A (u a) (fun _ s=>∃m,s.heap.Ns C m∧∀h M,h.Ns C M→hC C s.heap h→Q dj {s with heap:=h}) E s
theorem Ki
  (l:clausesOf e=g::gs) (B:∀x,Sw g.iter v x=dm x) (D:closureFor S v=dm F) (d:S.kind=k4) (G:∀x∈S.names,x.2=g6→S.names.lookup x.1=ac g6)
  (h:aH (aN aC c.w) c.A f (fun x w=>aH (aN aC c.w) c.A (km x) (fun i y=>aH (aN aC c.w) c.A (newList []) (fun acc z=>
   aH (aN aC c.w) c.A (newFunctionEnv S v.globals F [] v.qual ah dj (ac v)) (fun C A=>
    oi (aN aC c.w) c.A (.compStart e 0 i acc {C with scope:=yF S v}) (fun r s=>r=jJ h6∧uP c E U Q acc C.locals s) A) E z) E y) E w) E s):
  aH (aN aC c.w) c.A (EF e S v pos (newList []) ai f U) Q E s:=by
 unfold EF;refine ak D (ak l ?_);refine aG (d9 h (fun x w I=>aG (fw (aG (yr (B x) (aG (eF (d9 I (fun i y L=>
  wpAny_standIf (aG (d9 L (fun acc z N=>aG (bo (aG (d9 N (fun C A P=> ?_) fun _ _ a=>a)))) fun _ _ a=>a)))
   fun _ _ a=>a))))))) fun _ _ a=>a)
 dsimp only
 have j:∀x∈(S.names.filter fun x=>(x.2==g6||x.2==gu)&&x.1!=(".0":br)).reverse,x.2=g6→
   Rl {C with scope:=yF S v} x.1=ac g6:=fun x k R=>lookup_relabel_local (G x (c_.mp (x7.mp k)).1 R)
 have T:∀x∈(S.names.filter fun x=>(x.2==g6||x.2==gu)&&x.1!=(".0":br)).reverse.drop 1++(S.names.filter fun x=>(x.2==g6||x.2==gu)&&x.1!=(".0":br)).reverse.take 1,
   x.2=g6→Rl {C with scope:=yF S v} x.1=ac g6:=fun x k=>(dD.mp k).elim (fun o=>j x (List.mem_of_mem_drop o)) fun o=>j x (List.mem_of_mem_take o)
 refine eF (aG (ED (eF (wpAny_run (codeAny_mono P fun r V b=> ?_)))));obtain⟨rfl,b⟩:=b;induction U with
 |none=>
  refine ay b ?_;clear b;intro m n b;exact aG (eF (SJ d _ V m j n fun a M p q=>bo (b a M p q)))
 |some u=>
  exact aG (yv (aG (eF (d9 b (fun _ W t=>(ay t fun m n t=>(aG (SJ d _ W m T n fun a M p q=>bo (t a M p q))))) fun _ _ a=>a))))
theorem kK.mono (i:kK c I G ds ah P) (l:bT ai G g):kK c I g ds ah P:=⟨i.ty,i.keep,fun L=>i.next (l.trans L),fun L=>i.self (l.trans L),fun L=>i.done (l.trans L)⟩
def qf (X x:dS) (l:Nat) (r:gE):Prop:=∀{p f L Y},X.sub (rG l p) f L Y→aQ x (·=(f,L,Y)) (qG r p.a p.t p.b p.d p.L p.st fun v L Y=>dV (.h (.c v)) L Y)
theorem wM (B:er c.w mg mb) (R:b2 W X Z r) (a₀:∀{Z},b2 W μ Z r) (T:∀{Z},hI W μ Z r) (M:bj W c) (a₁:qf X μ a₂ r) (h:b_ c.sc (dY ν t i ξ) e=af) (k:aU c G L Y s) {K:List aj→au→ar→aT} (w:aQ X Z (wO a₂ r ν t i ξ L Y K))
  (q:∀{ds D C l st' g γ us n},bV ai c G g l st' γ→g D=ah→g C=ac eH→(∀x,c.pl x≠hG C)→γ.heap.get? D=ac (d5 us n)→dw g ds us→ds.length≤b4→aQ X Z (K ds l st')→uP c E u Q (am D) C γ):
  aH (aN aC c.w) c.A (EF (bz (dY ν t i ξ) e) (mG e) c.env pos (newList []) ai (bO (bz i (bA 2 e)) c.env) u) Q E s:=by
 have h:=h;obtain⟨h,a₃⟩:=bS.mp h;obtain⟨h,a₄⟩:=bS.mp h;obtain⟨ο,δ⟩:=bS.mp h;have o:=HR δ;have a₅:∀p∈(mG e).names,p.2=d'→∃a,c.env.cells.lookup p.1=ac a:=fun p F j=>by
  rcases o.all p F with⟨q,_⟩|⟨_,m,q⟩|q
  ·rw[q] at j;injection j
  ·obtain⟨x,y,e⟩:=List.mem_iff_getElem.mp m;have e:cc x=p.1:=by unfold cc;exact ak (List.getElem?_eq_getElem y) e
   rw[←e] at q⊢;exact(q.elim (fun q=>(M.cell x (tM y q)).2) fun q=>(M.free x (tM y q)).2).imp fun _ h=>h.1
  ·rw[q] at j;injection j
 refine Ki rfl (fun x=>(hV ο).fold _ x) (KN a₅) o.l (fun p F j=>Oe o.keys (by rw[←j];exact F)) (Ad B R M ο k w fun U w=> ?_);rename_i ds a₆ b₈ b₉ ε I S;induction a₆ with
 |some _=>exact w.elim
 |none=>
 refine ay w ?_;clear w;intro v a₇ w;refine(f7 w).elim fun a₈ w=> ?_;subst a₈;refine hQ w ?_;clear w;intro f l st' y w;induction f with
 |h d=>
  induction d using aj.casesOn with
  |c V=>
   refine t5 (wpAny_newFunctionEnv (fun p F j=> ?_) (fun _ h=>(kh h).elim) (fun a₉ ζ α=> ?_) o.l)
   ·rcases o.all p F with⟨q,_⟩|⟨q,_⟩|q<;>rw[q] at j<;>injection j
   ·dsimp only at ζ α⊢;have k:=U.p.k;refine ay U.a fun P η π=>bK (η.ty π) fun c₀ _ ρ _=> ?_;generalize β:S.heap.push {cls:=bn "list",dict:=ah,data:=op ([]:List aV).toArray}=A at ζ α⊢;have θ:A.objs.size=S.heap.objs.size+1:=by rw[←β,yc]
    have σ:S.heap.objs.size≠A.objs.size:=by rw[θ];exact hZ (lO _)
    have τ:=fun b o e=>α.extBut b o (by rw[θ];exact hZ (px (ki e))) (iq _ (β▸iq _ e));have ι:=α.extBut _ _ σ (iq _ (β▸g4 _ rfl));have N:=k.free (v0 (h':=A) fun b o e=>by rw[←β];exact iq _ e);refine hQ (id ζ) fun b₀ b₁ b₂ b₃ b₄=> ?_;have κ:=(k.kp (h':=a₉) (tk:=S.toks+([]:List (br×aV)).length) fun b o _=>τ b o).tag (t:=eH) N b₃ ⟨_,fun h a e=>iT b₀ b₁ b₂ e b₄⟩ fun _ h=>h.elim;have υ:bT af ε (dt ε A.objs.size eH):=jX N;have b₅:I≠A.objs.size:=fun e=>aR (ki ρ) (by rw[e,θ];exact e7 (fQ _));have φ:dt ε A.objs.size eH I=none:=(hN b₅).trans U.free;have χ:=η.mono υ.low;have ψ:=η.keep π fun o δ=>τ I o δ
    have ω:=Kf (et:=bA 1 e) (ei:=bz i (bA 2 e)) (pos:=e.pos) a₀ T M o a₄ a₃ (dB (bD a₇)) (fun q=>aR (ki ρ) (by rw[q];exact gI _)) χ hL (RR:=fun r s=>r=jJ h6∧uP c E u Q (am S.heap.objs.size) A.objs.size s)
     (fun p b₆ ι b₇ z=>⟨rfl,q (((U.p.tr (bV.mk υ (fun a f x e=>(gk e).elim (fun e=>nomatch e.2) fun e=>e.2) κ)).low).tr p).low b₆ (p.l _ _ trivial hL) (fun x y=>by have:=k.vis x;rw[y] at this;exact nomatch N.symm.trans this) ι b₇ z w⟩)
     ⟨cA _,.of κ,φ,(hN σ).trans k.B,ψ,⟨0,ι⟩,cI,bv _,_,fun _ _ _=>rfl,a₁ y⟩
    exact codeAny_compStart_list ω (χ.self .f κ φ ψ ω)
  |_=>exact w.elim
 |_=>exact w.elim
theorem aU.nsC (k:aU c G L Y s) {C:bp} (t:G C=ac eH) (n:∀x,c.pl x≠hG C) (f:h'.Ns C M) (b:hC C s.heap h'):aU c G L Y {s with heap:=h'}:=by
 refine hQ (id f) fun o g p d z=>k.step (h':=h') (fun _ _ _ h=>h) k.base (fun a u e=> ?_) k.solo fun x S e=>(k.fr x S e).imp fun v y=>y.imp_left fun y=>y.imp_right fun y=> ?_
 ·by_cases h:a=C
  ·subst h;have e:=t▸e;injection e with e;subst e;exact av ⟨o,d,_,fun h a e=>iT o g p e z⟩
  ·exact aI ⟨e,fun o d=>(b.2 a h).trans d,.f fun _ _ _ h=>h⟩
 ·revert y
  induction i:c.pl x with
  |loc a=>exact fun y=>y.imp_right fun y=>y.imp fun m y=>y.imp_left fun y=>y.sameBut b fun e=>n x (e▸i)
  |cell a=>exact fun y=>⟨y.1,y.2.sameBut b (by rintro rfl;have t:=y.1▸t;cases t)⟩
theorem aU.data (k:aU c G L Y s) (n:G a=ah) (b:s.heap.get? a=ac o) (r:cQ c.w G o d):bV af c G (dt G a (.d d o)) L Y s∧hg (dt G a (.d d o)) d (am a):=
 ⟨⟨jX n,fun a f x e=>(gk e).elim (fun e=>nomatch e.2) fun e=>e.2,k.tag n b ⟨rfl,r⟩ fun _ h=>h.elim⟩,_,_,rfl,hL⟩
theorem Lv (B:er c.w mg mb) (R:b2 W X Z r) (g:∀{Z},b2 W x Z r) (j:∀{Z},hI W x Z r) (y:bj W c) (A:qf X x l r) (h:b_ c.sc (dY a t i I) e=af):dr X Z c ai G a8 (p3 T l r (dY a t i I)) (bO (bz (dY a t i I) e) c.env):=by
 intro L Y s U Q E k w q;refine(?_:aH _ _ (bO (pI (bz a (bA 0 e)) [⟨mi t (bA 1 e),bz i (bA 2 e),dJ I ((eu e).drop 3),0⟩] (mG e) e.pos) c.env) Q E s);rw[eval_ListComp];refine wM B R g j y A h k w fun p N C n D v z w=> ?_;obtain⟨o,F,m,P⟩:=p.k.ok _ _ C;refine bd m (P _ _ F) (fun V M S b=> ?_);have f:=p.k.nsC C n S b;have u:=f.data (d:=.c _) N ((b.2 _ (by rintro rfl;rw[N] at C;injection C)).trans D) (es _ _ rfl v (ka z));exact q (d:=.c _) ((bV.mk p.l p.h f).tr u.1) u.2 w
end
section
variable{Y:ar}
theorem lh {b:Bool} (w:aQ X Z (cond b x y)):(b=af∧aQ X Z x)∨aQ X Z y:=by
 induction b with
 |true=>exact av ⟨rfl,w⟩
 |false=>exact aI w
theorem uO (B:er c.w mg mb) (b:bj w c) (k:aU c G L Y s) (d:l8 c.sc (d_ g)=af) (f:(g,fv)∈l7) (e:(∃i,fv=bJ i)∨∃T,fv=bn T) (o:b_ c.sc a ea=af)
  (h:aH (aN aC c.w) c.A (bO (bz a ea) c.env) (fun v S=>aH (aN aC c.w) c.A (gN fv [v]) Q E S) E s):aH (aN aC c.w) c.A (bO (i1 (ey (d_ g) p') [bz a ea] [] pos) c.env) Q E s:=
 sT B b k d f e (C' (hV o)) rfl (m5 (d9 h (fun _ _ h=>pG h) fun _ _ h=>h))
theorem JA (B:er c.w mg mb) (R:b2 n X Z r) (u:bj n c) (δ:l8 c.sc (d_ g)=af) (o:b_ c.sc a ea=af):dr X Z c ai G a8 (xI r g [a]) (bO (i1 (ey (d_ g) p') [bz a ea] [] pos) c.env):=by
 intro L Y s x Q E k w q
 have C {fv:aV} {x:fN→au→ar→aT} (f:(g,fv)∈l7) (I:(∃i,fv=bJ i)∨∃T,fv=bn T) (w:aQ X Z (f0 r a L Y fun c L Y=>i9 c L Y fun q=>x q L Y)) (h:∀{A l F v S y},bV ai c G A l F y→jp c.w A y.heap v S→aQ X Z (x S l F)→aH (aN aC c.w) c.A (gN fv [v]) Q E y):aH (aN aC c.w) c.A (bO (i1 (ey (d_ g) p') [bz a ea] [] pos) c.env) Q E s:=
  uO B u k δ f I o (lI R u o k w fun p ε w=>by
   refine ay (sj w) fun q j w=> ?_;exact h p.low (sm p.k ε (bV.of p.k) (fun _=>rfl) j) w)
 have M {fv:aV} {x:aj→au→ar→aT} (f:(g,fv)∈l7) (I:(∃i,fv=bJ i)∨∃T,fv=bn T) (w:aQ X Z (r.e a L Y x)) (h:∀{A l F d v y},bV ai c G A l F y→a8 A d v→aQ X Z (x d l F)→aH (aN aC c.w) c.A (gN fv [v]) Q E y):aH (aN aC c.w) c.A (bO (i1 (ey (d_ g) p') [bz a ea] [] pos) c.env) Q E s:=
  uO B u k δ f I o (R u o k w fun p d w=>h p.low d w)
 rcases lh w with⟨j,W⟩|W
 ·have j:=Nat.eq_of_beq_eq_true j;refine C (fv:=.builtin "len") (j▸by decide) (.inl ⟨_,rfl⟩) W fun p S w=>ay w ?_;clear w;intro d m w;obtain⟨z,j⟩:=dx m;injection j with j;subst j;exact O_ p.k S z fun t ζ=>q (d:=ae _) ⟨p.l,p.h,p.k.tok ζ⟩ ⟨t,rfl⟩ w
 rcases lh W with⟨j,N⟩|N
 ·have j:=Nat.eq_of_beq_eq_true j;refine C (fv:=.builtin "sorted") (j▸by decide) (.inl ⟨_,rfl⟩) N fun{_ _ _ _ S _} p U w=> ?_;induction S with
  |e ι=>
   refine ay w ?_;clear w;intro d m w;exact Qk u p.k U m fun P D=>q (p.tr P).low D w
  |_=>exact w.elim
 rcases lh N with⟨j,V⟩|V
 ·have j:=Nat.eq_of_beq_eq_true j;refine M (fv:=.builtin "all") (j▸by decide) (.inl ⟨_,rfl⟩) V fun{_ _ _ d _ _} p D w=> ?_;induction d using aj.casesOn with
  |c η=>
   refine ay w ?_;clear w;intro b θ w;exact G2 u p.k D θ fun k=>q (d:=aA b) ⟨p.l,p.h,k⟩ rfl w
  |_=>exact w.elim
 rcases lh V with⟨j,α⟩|α
 ·have j:=Nat.eq_of_beq_eq_true j;refine M (fv:=.type "str") (j▸by decide) (.inr ⟨_,rfl⟩) α fun p D w=>ay w ?_;clear w;intro d m w;exact FE p.k m D fun k D=>q ⟨p.l,p.h,k⟩ D w
 rcases lh α with⟨j,β⟩|β
 ·have j:=Nat.eq_of_beq_eq_true j;refine M (fv:=.type "int") (j▸by decide) (.inr ⟨_,rfl⟩) β fun p D w=>ay w ?_;clear w;intro d m w;exact HK p.k m D fun k D=>q ⟨p.l,p.h,k⟩ D w
 rcases lh β with⟨j,γ⟩|γ
 ·have j:=Nat.eq_of_beq_eq_true j;refine C (fv:=.type "tuple") (j▸by decide) (.inr ⟨_,rfl⟩) γ fun{_ _ _ _ S _} p U w=> ?_;induction S with
  |c η=>exact E4 p.k U fun P D=>q (p.tr P).low D w
  |_=>exact w.elim
 exact γ.elim
theorem Pf (B:er c.w mg mb) (R:b2 n X Z r) (i:bj n c) (h:l8 c.sc (d_ g)=af) (o:eM c.sc f l=af):dr X Z c ai G a8 (xI r g f) (bO (i1 (ey (d_ g) p') (dJ f l) [] pos) c.env):=by
 intro L Y s y Q E k w q;induction f using cn with
 |nil=>exact w.elim
 |cons a f=>
  obtain⟨j,t⟩:=bS.mp o;induction f using cn with
  |nil=>exact JA B R i h j k w q
  |cons b f=>
   have m:=(bS.mp t).1;induction f using cn with
   |cons _ _=>exact w.elim
   |nil=>
    rcases lh w with⟨e,W⟩|W
    ·cases Nat.eq_of_beq_eq_true e;refine sT B i k h (fv:=.builtin "max") (by decide) (.inl ⟨_,rfl⟩) (z_ (hV j) (hV m)) rfl (spliced_cons (R i j k W fun p d w=>spliced_cons (R i m p.k w fun P D w=>spliced_nil (ay w ?_))));clear w;intro v u w;exact Ip i P.k u (d.mono P.l.ld) D fun k x=>q ⟨(p.tr P).low.l,(p.tr P).h,k⟩ x w
    ·exact W.elim
end
section
variable{c:dq} {Y:ar}
noncomputable def dO (ts:List (h8 aV)):List (Bool×h8 aV):=ts.map fun t=>(ai,t)
theorem wz:∀{ts:List (h8 aV)},(dO ts).any (·.1)=ai∧(dO ts).all (fun x=> !x.1)=af
 |[]=>⟨rfl,rfl⟩
 |_::r=>wz (ts:=r)
theorem wo:∀{E:List bt} {l:List c6},eM s E l=af→∃ts,gL pos (gt (dJ E l) v)=dO ts:=by
 intro E;induction E with
 |nil=>
  intro _ _;exact⟨[],rfl⟩
 |cons m E i=>
  intro l h;obtain⟨a,b⟩:=bS.mp h;obtain⟨ts,e⟩:=i b;refine⟨bO (bz m (l.headD fy)) v::ts, ?_⟩;show gL pos (gt (bz m (l.headD fy)::dJ E l.tail) v)=_;rw[(hV a).a];exact aS _ e
theorem wE (h:aH (aN aC c.w) c.A (lW (dO ts)) (fun vs S=>Q ⟨vs,[]⟩ S) E s):aH (aN aC c.w) c.A (evalArgs f af (dO ts) []) Q E s:=by
 induction ts using cn with
 |nil=>exact aG (d9 h (fun vs S a=>aG (bo (eF (aG (bo (aG (bo (bo a)))))))) fun _ _ x=>x)
 |cons t ts=>exact Er h
theorem I8 (b:∀w,yk o name c.env w=w) (f:(A.endLine==pos.line)=af) (n:a.length<20) (t:gL pos (gt a c.env)=dO ts)
  (h:aH (aN aC c.w) c.A (bO o c.env) (fun v S=>∀P,aH (aN aC c.w) c.A (m6 v name P) (fun p d=>aH (aN aC c.w) c.A (kl pos p.1 p.2 (dO ts) []) Q E d) E S) E s):
  aH (aN aC c.w) c.A (bO (i1 (iu o name A) a [] pos) c.env) Q E s:=by
 rw[arm_eval_Call,b];refine aG (d9 h (fun v S g=>(aG (fw ?_))) fun _ _ e=>e);have m:methodCallForm (a.length+([]:List Keyword).length) (dO ts) (backToKw pos (keywordEach [] c.env))=true:=by
  show((dO ts).all (fun x=> !x.1)&&af&&aM (a.length+0+0<30))=af;rw[wz.2,cu (show a.length+0+0<30 from ft n (by decide))];rfl
 have i:methodCallPos af o c.env A pos=dm pos:=by unfold methodCallPos;refine ak f ?_;rfl
 unfold methodCall;exact ak t (ak m (aG (eF (d9 (g _) (fun p d j=>aG (yr i j)) fun _ _ e=>e))))
theorem w7 {i:String} {a:bp} (f:s.heap.get? a=ac o) (g:o.cls=bn T) (d:o.dict=ah) (P:PlainAttrs T) (sl:SN T name i) (t:typeOf (bJ i)=dm (bn "method_descriptor"))
  (h:aH (aN aC c.w) c.A (lW (dO ts)) (fun vs S=>aH (aN aC c.w) c.A (gN (bJ i) (am a::vs)) Q E S) E s):
  aH (aN aC c.w) c.A (m6 (am a) name l) (fun p j=>aH (aN aC c.w) c.A (kl pos p.1 p.2 (dO ts) []) Q E j) E s:=
 getMethod_builtin (bd o f g) P sl t (fun b e=>by injection e with e;subst e;exact⟨o,f,d⟩) (SO wz.1 (wE h))
theorem z2:cW 2=gp "pop"∧cW 3=gp "append"∧cW 4=gp "extend"∧cW 6=gp "reverse"∧cW 5=gp "get":=by decide+kernel
theorem Fm (h:qE n=af):n=2∨n=3∨n=4∨n=6:=((dK ..).mp h).imp jd fun h=>((dK ..).mp h).imp jd fun h=>((dK ..).mp h).imp jd jd
theorem rL (h:qE n=af):SN "list" (cW n) (vM n)∧typeOf (bJ (vM n))=dm (bn "method_descriptor"):=by
 refine jc z2 fun a A b d _=> ?_;rcases Fm h with rfl|rfl|rfl|rfl
 ·exact ak a (⟨PySem.F.slot_list_pop,PySem.F.type_list_pop⟩)
 ·exact ak A (⟨PySem.F.slot_list_append,PySem.F.type_list_append⟩)
 ·exact ak b (⟨PySem.F.slot_list_extend,PySem.F.type_list_extend⟩)
 ·exact ak d (⟨PySem.F.slot_list_reverse,PySem.F.type_list_reverse⟩)
theorem xl (B:bj w c) (k:aU c G L Y s) {a:bp} (N:∀o,G a≠ac (.a o)) (C:s.heap.get? a=ac o) (r:cQ c.w G o (.e j)) (e:(ov key j d).e=ac v) (I:a8 G key vk) (F:(vs=[]∧d=a4)∨∃u,vs=[u]∧a8 G d u)
  (h:∀{V t},a8 G v V→Q V {s with toks:=t}):aH (aN aC c.w) c.A (gN (bJ "dict.get") (am a::vk::vs)) Q E s:=by
 refine(dx e).elim fun M l=> ?_;injection l with l;subst l;have n:=k.nmod N;have T:=(tt k C r).1;refine nz k C r M I (fun i t A p y q m=> ?_) fun x b A p y q m i=> ?_
 ·subst p y;have g {u:aV} (D:a8 G d u):a8 G ((f3 (ae i) j).getD d) ((valueAt A i).getD u):=by
   unfold valueAt;rcases q.get ql i with⟨g,f⟩|⟨P,v,g,f,z⟩<;>(refine ak g ?_;refine ak f ?_)
   ·exact D
   ·exact z
  rcases F with⟨rfl,rfl⟩|⟨u,rfl,D⟩
  ·exact call_meetsIn PySem.F.slot_dict_get T PySem.F.entry_dict_get (PySem.F.args_dict_get_2 _ _) (meets_dict_get (mI c.w) a (intKind_is aC c.w i t) n) (bd _ m.mapOf (h (g rfl)))
  ·exact call_meetsIn PySem.F.slot_dict_get T PySem.F.entry_dict_get (PySem.F.args_dict_get_3 _ _ _) (meets_dict_get_default (mI c.w) a (intKind_is aC c.w i t) n u) (bd _ m.mapOf (h (g D)))
 ·subst p y;have g {u:Value} (D:a8 G d u):a8 G ((f3 x.1 j).getD d) (((atKey A x).map (·.2)).getD u):=by
   unfold atKey;rcases q.get ma x with⟨g,f⟩|⟨P,v,g,f,z⟩<;>(refine ak g ?_;refine ak f ?_)
   ·exact D
   ·exact z.2
  rcases F with⟨rfl,rfl⟩|⟨u,rfl,D⟩
  ·exact call_meetsIn PySem.F.slot_dict_get T PySem.F.entry_dict_get (PySem.F.args_dict_get_2 _ _) (meetsH_dict_get (gS c.w) a b n) ⟨B.rm,x,A,i,m,h (g rfl)⟩
  ·exact call_meetsIn PySem.F.slot_dict_get T PySem.F.entry_dict_get (PySem.F.args_dict_get_3 _ _ _) (meetsH_dict_get_default (gS c.w) a b n u) ⟨B.rm,x,A,i,m,h (g D)⟩
theorem HU (R:b2 W X Z r) (o:bj W c) (h:b_ c.sc (.u a n b) e=af) (k:aU c G L Y s) (w:aQ X Z (f0 r a L Y f))
  (q:∀{z l st' g v S ts P},bV a.simple c G g l st' S→lx g z v→eM c.sc b (eu e).tail=af→gL e.pos (gt (dJ b (eu e).tail) c.env)=dO ts→aQ X Z (f z l st')→aH (aN aC c.w) c.A (m6 v (cW n) P) (fun p j=>aH (aN aC c.w) c.A (kl e.pos p.1 p.2 (dO ts) []) Q E j) E S):
  aH (aN aC c.w) c.A (bO (bz (.u a n b) e) c.env) Q E s:=by
 have h:=h;obtain⟨h,d⟩:=bS.mp h;obtain⟨h,m⟩:=bS.mp h;obtain⟨h,u⟩:=bS.mp h;obtain⟨x,i⟩:=bS.mp h;obtain⟨ts,t⟩:=wo d;exact I8 (fun _=>Ah x i) u (by refine ak Kv ?_;exact dB m) t (lI R o i k w fun p C w P=>q p C d t w)
theorem sV (R:b2 W X Z r) (o:bj W c) (h:eM c.sc a l=af) (e:gL pos (gt (dJ a l) c.env)=dO ts):dr X Z c (lL a) G (fun G ds vs=>dw G ds vs∧ds.length=a.length) (gW r a) (lW (dO ts)):=by
 intro L Y s b Q E k w q;exact ak (cB e) (r5 R o h k w q)
theorem OD (R:b2 W X Z r) (γ:bj W c) (h:eM c.sc z l=af) (e:gL pos (gt (dJ z l) c.env)=dO ts) {K:aj→au→ar→aT} {v:aV} (k:aU c G L Y s) (δ:lx G (g' x) v) (w:aQ X Z (vZ r x n z L Y K))
  (q:∀{d I st' M v S},bV (lL z) c G M I st' S→a8 M d v→aQ X Z (K d I st')→Q v S):aH (aN aC c.w) c.A (m6 v (cW n) P) (fun p N=>aH (aN aC c.w) c.A (kl p' p.1 p.2 (dO ts) []) Q E N) E s:=by
 unfold vZ at w;induction A:gR x L with
 |none=>have w:=A▸w;exact w.elim
 |some ε=>
  rw[A] at w;induction ε with
  |e _=>exact w.elim
  |c π=>
   refine bK δ fun a f y t=> ?_;subst y;obtain⟨ζ,o,η,V,m,rfl,_⟩:=k.slAt t A;rcases lh w with⟨U,w⟩|w
   ·refine w7 η rfl rfl PySem.F.plainAttrs_list (rL U).1 (rL U).2 (sV R γ h e k w fun p D w=> ?_);rename_i θ j α ρ σ N;have w:aQ X Z (match gR x j with
     |some c=>aT.c (.u n c θ) fun d c=>match jr x c j with
      |some L=>K d L α
      |none=>.a
     |none=>.a):=w
    induction u:gR x j with
    |none=>have w:=u▸w;exact w.elim
    |some τ=>
     rw[u] at w;refine bK w ?_;clear w;intro d C ι w;obtain⟨F,g⟩:=np u;refine ay (p.k.peek g) fun b _ T=> ?_;have β:=p.h _ _ _ T;obtain⟨_,_,_,i,_⟩:=k.ok _ _ β;rw[ζ] at i;obtain⟨rfl,_⟩:=kB (bD i);cases k.solo _ _ (bQ f x) trivial t β;refine ay ((p.k.slAt T u).2) fun υ κ μ=> ?_;have w:aQ X Z (match jr x C j with|some L=>K d L α|none=>.a):=w
     induction B:jr x C j with
     |none=>have w:=B▸w;exact w.elim
     |some φ=>
      rw[B] at w;cases xO g B;exact z4 p.k ι κ μ D.1 fun v χ ψ ω D ν ξ ο=>q ⟨p.l,p.h,p.k.poke T g ν ξ ο⟩ D w
   ·exact w.elim
theorem Cb (R:b2 W X Z r) (m:bj W c) (h:eM c.sc f l=af) (e:gL pos (gt (dJ f l) c.env)=dO ts) {a:bp} {K:List aj→au→ar→aT} (k:aU c G L Y s) (i:s.heap.get? a=ac o) (n:cQ c.w G o (.e u)) (w:aQ X Z (gW r f L Y K))
  (q:∀{ds j st' g vs S},bV (lL f) c G g j st' S→dw g ds vs→aQ X Z (K ds j st')→aH (aN aC c.w) c.A (gN (bJ "dict.get") (am a::vs)) Q E S):aH (aN aC c.w) c.A (m6 (am a) (cW 5) P) (fun p t=>aH (aN aC c.w) c.A (kl p' p.1 p.2 (dO ts) []) Q E t) E s:=by
 refine dQ (tt k i n) fun y d _=>ay y fun v b T=> ?_;rw[i] at b;injection b with b;subst b;exact ak z2.2.2.2.2 (w7 i T d PySem.F.plainAttrs_dict tU PySem.F.type_dict_get (sV R m h e k w fun p D w=>q p D.1 w))
end
section
variable{Y:ar}
theorem HP (R:b2 W X Z r) (F:bj W c) (h:eM c.sc b l=af) (e:gL pos (gt (dJ b l) c.env)=dO ts) {K:aj→au→ar→aT} {a:bp} (k:aU c G L Y s) (t:G a=ac (cJ j x)) (f:lL b=af) (I:dW j x Y=ac (.c ζ)) (y:qE n=af)
  (w:aQ X Z (gW r b L Y fun ds L Y=>match dW j x Y with
   |some c=>aT.c (.u n c ds) fun d c=>match gg j x (b1 c) Y with
    |some Y=>K d L Y
    |none=>.a
   |none=>.a))
  (q:∀{d z st' g v A},bV af c G g z st' A→a8 g d v→aQ X Z (K d z st')→Q v A):aH (aN aC c.w) c.A (m6 (am a) (cW n) P) (fun p B=>aH (aN aC c.w) c.A (kl p' p.1 p.2 (dO ts) []) Q E B) E s:=by
 obtain⟨_,o,M,V,m,rfl,_⟩:=k.box t I;refine w7 M rfl rfl Q0 (rL y).1 (rL y).2 (sV R F h e k w fun p D w=> ?_);rename_i ds N S η θ B;induction i:dW j x S with
 |none=>have w:=i▸w;exact w.elim
 |some ι=>
  rw[i] at w;refine bK w ?_;clear w;intro d C U w;have P:=f▸p.l;have T:=P a (cJ j x) (av rfl) t;obtain⟨α,κ,β,γ⟩:=p.k.box T i;have w:aQ X Z (match gg j x (b1 C) S with|some Y=>K d N Y|none=>.a):=w
  induction u:gg j x (b1 C) S with
  |none=>have w:=u▸w;exact w.elim
  |some μ=>
   have w:=u▸w;exact z4 p.k U β γ D.1 fun v ν ξ ο D f δ ε=>q ⟨P,p.h,p.k.pokeB T α f δ ε (qA u)⟩ D w
theorem Je (R:b2 W X Z r) (f:bj W c) (h:eM c.sc m l=af) (e:gL pos (gt (dJ m l) c.env)=dO ts) {K:aj→au→ar→aT} {a:bp} (k:aU c G L Y s) (t:G a=ac (cJ j x)) (A:lL m=af)
  (w:aQ X Z (va r j x n m L Y K)) (q:∀{d B st' g v S},bV af c G g B st' S→a8 g d v→aQ X Z (K d B st')→Q v S):aH (aN aC c.w) c.A (m6 (am a) (cW n) P) (fun p F=>aH (aN aC c.w) c.A (kl p' p.1 p.2 (dO ts) []) Q E F) E s:=by
 unfold va at w;induction i:dW j x Y with
 |none=>have w:=i▸w;exact w.elim
 |some C=>
  rw[i] at w;induction C with
  |c θ=>
   rcases lh w with⟨b,w⟩|w
   ·exact HP R f h e k t A i b w q
   ·exact w.elim
  |e ι=>
   obtain⟨b,w⟩:=f7 w;have b:=iv b;subst b;obtain⟨_,o,α,β⟩:=k.box t i;refine Cb R f h e k α β w fun p D w=> ?_;rename_i γ κ δ ε V F;have P:=A▸p.l;have T:=P a (cJ j x) (av rfl) t;induction u:dW j x δ with
   |none=>rw[u] at w;induction γ<;>exact w.elim
   |some ζ=>
    rw[u] at w;induction ζ with
    |c _=>exact w.elim
    |e μ=>
     obtain⟨_,ν,I,M⟩:=p.k.box T u;have N:∀o,ε a≠ac (.a o):=fun o e=>by have e:=T▸e;cases e
     cases D with
     |nil=>exact w.elim
     |cons U y=>cases y with
      |nil=>
       refine ay w ?_;clear w;intro v z w;exact xl f p.k N I M z U (av ⟨rfl,rfl⟩) fun D=>q ⟨P,p.h,p.k.tok _⟩ D w
      |cons η y=>cases y with
       |nil=>
        refine ay w ?_;clear w;intro v z w;exact xl f p.k N I M z U (aI (bd _ rfl η)) fun D=>q ⟨P,p.h,p.k.tok _⟩ D w
       |cons _ _=>exact w.elim
theorem Gz (R:b2 W X Z r) (i:bj W c) (h:eM c.sc b l=af) (e:gL pos (gt (dJ b l) c.env)=dO ts) {K:aj→au→ar→aT} (k:aU c G L Y s) (D:a8 G (.e m) v)
  (w:aQ X Z (gW r b L Y fun ds L Y=>match ds with
   |[key,d]=>e_ (ov key m d) fun d=>K d L Y
   |_=>.a)) (q:∀{d j st' g v S},bV (lL b) c G g j st' S→a8 g d v→aQ X Z (K d j st')→Q v S):aH (aN aC c.w) c.A (m6 v (cW 5) P) (fun p n=>aH (aN aC c.w) c.A (kl p' p.1 p.2 (dO ts) []) Q E n) E s:=by
 refine bK D fun a o y t=> ?_;subst y;refine eA (k.ok _ _ t) fun I u y x=> ?_;subst y;refine Cb R i h e k u x w fun p D w=> ?_;have T:=p.l a (.d _ _) trivial t;refine eA (p.k.ok _ _ T) fun M z y A=> ?_;subst y;cases D with
 |nil=>exact w.elim
 |cons B f=>cases f with
  |nil=>exact w.elim
  |cons C f=>cases f with
   |cons _ _=>exact w.elim
   |nil=>
    refine ay w ?_;clear w;intro v F w;exact xl i p.k (fun o e=>by have e:=T▸e;cases e) z A F B (aI ⟨_,rfl,C⟩) fun D=>q ⟨p.l,p.h,p.k.tok _⟩ D w
end
structure mP (w:bZ) (S:ct) (G:bM) (L:au) (Y:ar) (s:ct):Prop where
 same:∃h tk,s={S with heap:=h,toks:=tk}
 ok:∀a t,G a=ac t→∃o,s.heap.get? a=ac o∧kx w G Y L o t
 solo:∀a b t,o0 t→G a=ac t→G b=ac t→a=b
 base:bT ai (d8 w) G
noncomputable def fY (t:fl):Bool:=match t with
 |.ns=>af
 |.cell=>af
 |.slot _ _=>af
 |_=>ai
noncomputable abbrev rQ:=List (Nat×Nat)
noncomputable def iI (R:rQ) (h:fT) (G:bM):bM:=fun a=>match G a with
 |none=>ah
 |some t=>cond (fY t) (match t with
  |.slot l x=>(match R.lookup x with
   |some p=>ac (bQ af p)
   |none=>(h.get? a).map .a)
  |_=>(h.get? a).map .a) (ac t)
noncomputable def jo (G g:bM):bM:=fun a=>cond ((G a).any fY) (G a) (cond ((g a).any fY) ah (g a))
section
theorem sK (e:G a=ac t) (n:fY t=ai):iI R h G a=ac t:=by unfold iI;refine ak e ?_;dsimp only;refine ak n ?_;rfl
theorem s2 (e:iI R h G a=ac t):(fY t=ai∧G a=ac t)∨(∃o u,t=.a o∧h.get? a=ac o∧G a=ac u∧fY u=af)∨∃p l x,t=bQ af p∧G a=ac (bQ l x)∧R.lookup x=ac p:=by
 unfold iI at e;induction g:G a with
 |none=>rw[g] at e;injection e
 |some u=>
  rw[g] at e;have k (b:fY u=af) (e:(h.get? a).map .a=ac t):∃o v,t=.a o∧h.get? a=ac o∧ac u=ac v∧fY v=true:=by
   refine ay (dg.mp e) fun o c y=> ?_;subst y;exact hK o u rfl c rfl b
  induction u with
  |ns=>exact aI (av (k rfl e))
  |cell=>exact aI (av (k rfl e))
  |slot l x=>
   have e:(match R.lookup x with|some p=>ac (bQ af p)|none=>(h.get? a).map .a)=ac t:=e
   induction r:R.lookup x with
   |none=>have e:=r▸e;exact aI (av (k rfl e))
   |some p=>rw[r] at e;injection e with e;subst e;exact aI (aI (mT p l x rfl rfl r))
  |_=>injection e with e;subst e;exact av ⟨rfl,rfl⟩
theorem zu (e:G a=ac u) (n:fY u=af) (r:∀l x,u=bQ l x→R.lookup x=ah) (b:h.get? a=ac o):iI R h G a=ac (.a o):=by
 unfold iI;refine ak e ?_;induction u with
 |slot l x=>show(match R.lookup x with|some p=>ac (bQ af p)|none=>(h.get? a).map fl.a)=_;refine ak (r l x rfl) (ak b ?_);rfl
 |ns=>refine ak b ?_;rfl
 |cell=>refine ak b ?_;rfl
 |_=>injection n
theorem w_ (e:G a=ac (bQ l x)) (r:R.lookup x=ac p):iI R h G a=ac (bQ af p):=by
 unfold iI;refine ak e (?_:(match R.lookup x with|some p=>ac (bQ af p)|none=>(h.get? a).map fl.a)=_);refine ak r ?_;rfl
theorem v7 (e:G a=ac t) (n:fY t=af):jo G g a=ac t:=by unfold jo;refine ak e (ak x8 (ak n ?_));rfl
theorem s9 (e:jo G g a=ac t):(fY t=af∧G a=ac t)∨(fY t=ai∧g a=ac t):=by
 unfold jo at e;induction h:(G a).any fY with
 |true=>
  rw[h] at e;have e:G a=ac t:=e;rw[e] at h;exact av ⟨h,e⟩
 |false=>
  rw[h] at e;induction b:(g a).any fY with
  |true=>rw[b] at e;injection e
  |false=>
   rw[b] at e;have e:g a=ac t:=e;rw[e] at b;exact aI ⟨b,e⟩
theorem KO (e:d8 w a=ac t):fY t=false:=by
 unfold d8 at e;split at e
 ·injection e
 ·split at e<;>cases e<;>rfl
theorem wA (h:At u):fY u=ai∧∀o,u≠.a o:=by
 induction u with
 |a o=>exact h.elim
 |ns=>exact h.elim
 |cell=>exact h.elim
 |slot l x=>exact h.elim
 |_=>exact⟨rfl,fun o e=>by injection e⟩
theorem uV:iU G (iI R h G):=fun a u q e=>sK e (wA q).1
section
variable{fr:au} {Y:ar}
theorem aU.sc (k:aU c G L Y s):mP c.w c.a G L Y s:=⟨k.same,k.ok,k.solo,k.base⟩
theorem CV (n:fY t=ai) (h:∀k x a,G a=ac (cJ k x)→g a=ac (cJ k x)):nG G g Y Y L b t:=.c (fun l x e=>by subst e;injection n) h
theorem aU.call (k:aU c G L Y s) (v:∀x p,R.lookup x=ac p→∃l q,bG x L=ac (gX l q)∧bG p fr=ac (.a q)) (w:∀x y p,R.lookup x=ac p→R.lookup y=ac p→x=y):mP c.w c.a (iI R s.heap G) fr Y s:=by
 refine⟨k.same,fun a t e=> ?_,fun a b t S A j=> ?_,fun a t u e=>sK (k.base a t u e) (KO e)⟩
 ·rcases s2 e with⟨n,g⟩|⟨o,u,rfl,d,_⟩|⟨p,l,x,rfl,g,i⟩
  ·exact(k.ok a t g).imp fun o z=>z.imp_right (kx.view uV (CV n fun _ _ _ h=>sK h rfl))
  ·exact bd o d rfl
  ·obtain⟨o,d,q,C,r⟩:=k.ok _ _ g;refine bK (v x p i) fun D Q m F=> ?_;rw[C] at m;obtain⟨_,rfl⟩:=kB (bD m);exact⟨o,d,q,F,r.mono uV⟩
 ·rcases s2 A with⟨n,g⟩|⟨o,u,rfl,d,_⟩|⟨p,l,x,rfl,g,i⟩
  ·rcases s2 j with⟨_,f⟩|⟨o,u,rfl,_⟩|⟨p,l,x,rfl,_⟩
   ·exact k.solo a b t S g f
   ·exact S.elim
   ·injection n
  ·exact S.elim
  ·rcases s2 j with⟨n,_⟩|⟨o,u,e,_⟩|⟨P,D,X,e,f,I⟩
   ·injection n
   ·injection e
   ·cases e;cases w x X p i I;obtain⟨_,_,q,z,_⟩:=k.ok _ _ g;obtain⟨_,_,Q,Z,_⟩:=k.ok _ _ f;rw[z] at Z;obtain⟨rfl,_⟩:=kB (Option.some.inj Z);exact k.solo a b (.slot _ _) trivial g f
theorem aU.bk (k:aU c G L Y s) (k':mP c.w c.a g f st' S) (l:bT ai (iI R s.heap G) g) (e:G a=ac t) (n:fY t=af) (h:∀l x,t=bQ l x→R.lookup x=ah) (b:s.heap.get? a=ac o):S.heap.get? a=ac o:=
 (k'.ok _ _ (l a (.a o) trivial (zu e n h b))).elim fun p z=>z.2▸z.1
theorem aU.bg_of (k:aU c G L Y s) (l:bT ai (iI R s.heap G) b) (e:b a=ac t) (n:fY t=ai) (N:∀o,t≠.a o):jo G b a=ac t:=by
 unfold jo;induction g:(G a).any fY with
 |false=>refine ak e (ak x8 (ak n ?_));rfl
 |true=>
  induction h:G a with
  |none=>rw[h] at g;injection g
  |some u=>
   have d:=(h▸g);refine ay (k.ok _ _ h) fun o f _=> ?_;by_cases r:∀l x,u=bQ l x→R.lookup x=ah
   ·have:=l a (.a o) trivial (zu h d r f);rw[e] at this;exact aR (bD this) (N o)
   ·have⟨q,x,p,i,j⟩:∃l x p,u=bQ l x∧R.lookup x=ac p:=gl fun z=>r fun l x e=>by
     induction m:R.lookup x with
     |none=>rfl
     |some p=>exact aR (iT l x p e m) z
    subst i;have:=l a (bQ af p) rfl (w_ h j);rw[e] at this;injection this with this;subst this;injection n
theorem aU.back (k:aU c G L Y s) (k':mP c.w c.a i W st' S) (l:bT ai (iI R s.heap G) i) (I:∀y,R.lookup y=ah→bG y M=bG y L)
  (N:∀x p,R.lookup x=ac p→∃l q Q,bG x L=ac (gX l q)∧bG p W=ac (.a Q)∧bG x M=ac (gX l Q)):bV ai c G (jo G i) M st' S∧iU i (jo G i):=by
 have d:iU i (jo G i):=fun a t u e=>k.bg_of l e (wA u).1 (wA u).2;have w:bT ai G (jo G i):=fun a t u e=>by
  induction n:fY t with
  |true=>exact v7 e n
  |false=>
   have:=l a t u (sK e n);unfold jo;refine ak e (ak x8 (ak n (ak this (ak x8 (ak n ?_)))));rfl
 refine⟨⟨w,fun a f x e=>(s9 e).elim (fun h=>h.2) fun h=>(nomatch h.1),⟨k'.same,fun a t e=> ?_,fun a b t T x y=> ?_,k.bs w,fun x=>by have:=k.vis x;revert this;cases c.pl x<;>exact w.ls _ _ trivial,fun x X e=> ?_⟩⟩,d⟩
 ·rcases s9 e with⟨n,g⟩|⟨n,g⟩
  ·refine ay (k.ok _ _ g) fun o A z=> ?_;induction t with
   |ns=>exact⟨o,k.bk k' l g n (fun _ _ e=>by cases(e)) A,z⟩
   |cell=>exact⟨o,k.bk k' l g n (fun _ _ e=>by cases(e)) A,z⟩
   |slot f x=>
    induction r:R.lookup x with
    |none=>exact⟨o,k.bk k' l g n (fun l y e=>by cases(e);exact r) A,z.imp fun q z=>⟨(I x r).trans z.1,z.2.mono w.ld⟩⟩
    |some p=>
     obtain⟨Z,α,β,C,γ⟩:=k'.ok _ _ (l a (bQ af p) rfl (w_ g r));refine jS (N x p r) fun U q Q D V j=>ay z ?_;clear z;intro δ z _;have z:=D▸z;have C:=V▸C;cases(kB (bD z)).1;cases(C);exact⟨Z,α,β,j,γ.mono d⟩
   |_=>cases(n)
  ·exact(k'.ok a t g).imp fun o z=>z.imp_right (kx.view d (CV n fun _ _ _ h=>k.bg_of l h rfl (fun _ e=>by cases(e))))
 ·rcases s9 x with⟨n,g⟩|⟨n,g⟩<;>rcases s9 y with⟨m,F⟩|⟨m,F⟩
  ·exact k.solo a b t T g F
  ·have m:=n▸m;injection m
  ·have m:=n▸m;injection m
  ·exact k'.solo a b t T g F
 ·have P {v:Value} (y:iF G s.heap x v (c.pl x)):iF (jo G i) S.heap x v (c.pl x):=y.mono w.ls fun a o q A=>q.elim (fun q=>k.bk k' l q rfl (fun _ _ e=>by cases(e)) A) fun q=>k.bk k' l q rfl (fun _ _ e=>by cases(e)) A;induction r:R.lookup x with
  |none=>exact(k.fr x X ((I x r).symm.trans e)).imp fun v y=>y.imp P (jw.mono w.ls fun a _ g=>v7 g rfl)
  |some p=>
   refine jS (N x p r) fun U q Q D V j=> ?_;have j:=e▸j;injection j with j;subst j;exact(k.fr x _ D).imp fun v y=>y.imp P fun y=>by induction U<;>exact y.imp fun a z=>z.imp_right fun g=>v7 g rfl
end
end
noncomputable def ik:List Nat→List (aj⊕Nat)→rQ
 |p::H,.inl _::a=>ik H a
 |p::H,.inr x::a=>(x,p)::ik H a
 |_,_=>[]
def JO (G:bM) (p:Nat) (a:fJ) (v:aV):Prop:=match a with
 |.l d=>a8 G d v
 |.a _=>∃a,v=am a∧G a=ac (bQ af p)
noncomputable def w1 (G:bM):List Nat→List fJ→List aV→Prop
 |_,[],[]=>True
 |p::H,a::A,v::V=>JO G p a v∧w1 G H A V
 |_,_,_=>False
structure o4 (n:Nat) (A:pO):Prop where
 b:A.handled=ah
 d:A.depth+8*n+4≤900
 j:A.units+40*n+20≤9000
def iG (w:bZ) (n:Nat) (i:kw):Prop:=∀{g a Y d c S},i g a Y d c S→∃f H D F,jb.lookup g=ac f∧H.Nodup∧j8 H a D=ac F∧
 ∀{e G A s V R},o4 n A→mP w e G F Y s→w1 G H a V→(∀{v h b L},bT ai G b→mP w e b L S h→qS L H a=ac c→a8 b d v→R (jJ (.ret v)) h)→oi (aN aC w) A (.call (am f.1) ⟨V,[]⟩) R s
def lD (G:bM) (a:aj⊕Nat) (v:aV):Prop:=match a with
 |.inl d=>a8 G d v
 |.inr x=>∃a,v=am a∧∀b l,G b=ac (bQ l x)→b=a
theorem yI:∀{l:List Nat},vj l=af→l.Nodup:=by
 intro l;induction l with
 |nil=>
  exact fun _=>yd
 |cons x r i=>
  intro h;obtain⟨a,b⟩:=bS.mp h;exact gn.mpr ⟨fun m=>aR (l' a) (by refine ak (ee.mpr m) ?_;exact nofun),i b⟩
section
theorem ne {r:rQ}:kj x ((y,p)::r)=if x=y then ac p else r.lookup x:=by
 rw[fP];by_cases h:x=y
 ·rw[aJ h,h,iX]
 ·rw[aL h,c5.mpr h]
theorem wH (e:ll L (jm x::A)=ac s) {P:Prop} (q:∀c a,gR x L=ac c→ll L A=ac a→s=.a c::a→P):P:=by
 have e:=e;exact ay (jG.mp e) fun c h e=>ay (dg.mp e) fun a b e=>q c a h b e.symm
theorem w4 (e:ll L (fS d::A)=ac s) {P:Prop} (q:∀a,ll L A=ac a→s=.l d::a→P):P:=by
 have e:=e;exact ay (dg.mp e) fun a h e=>q a h e.symm
theorem HV:∀{H:List Nat} {s:List fJ} {f:au},H.Nodup→ll L A=ac s→j8 H s D=ac f→
  (∀x∈iK A,((ik H A).lookup x).isSome=af)∧∀x p,(ik H A).lookup x=ac p→x∈iK A∧p∈H∧∃c,gR x L=ac c∧bG p f=ac (.a c):=by
 induction A with
 |nil=>intro H s f _ _ _;exact⟨nofun,fun x p h=>by induction H<;>injection h⟩
 |cons a A m=>
  intro H s f n o E;have S {p q:Nat} {H:List Nat} {l:ig} {f:au} (n:(p::H).Nodup) (t:q∈H):bG q ((p,l)::f)=bG q f:=aL (fun e=>(gn.mp n).1 (by rw[e];exact t));induction a with
  |inl d=>
    refine w4 o fun g F e=> ?_;subst e;induction H using cn with
    |nil=>injection E
    |cons p H=>
     refine ay (dg.mp (show(j8 H g D).map ((p,.l d)::·)=ac f from E)) fun u j k=> ?_;subst k;obtain⟨I,i⟩:=m (gn.mp n).2 F j;exact⟨I,fun x q h=>(i x q h).imp_right fun z=>z.elim fun r v=>⟨e9 _ r,by rw[S n r];exact v⟩⟩
  |inr y=>
    refine wH o fun c g w F e=> ?_;subst e;induction H using cn with
    |nil=>injection E
    |cons p H=>
     refine ay (dg.mp (show(j8 H g D).map ((p,.a c)::·)=ac f from E)) fun u j k=> ?_;subst k;obtain⟨I,i⟩:=m (gn.mp n).2 F j;refine⟨fun x h=> ?_,fun x q h=> ?_⟩
     ·show(kj x ((y,p)::ik H A)).isSome=af;rw[ne];by_cases b:x=y
      ·rw[aJ b];rfl
      ·rw[aL b];exact I x ((eS.mp h).resolve_left b)
     ·have h:kj x ((y,p)::ik H A)=ac q:=h;rw[ne] at h;by_cases b:x=y
      ·rw[aJ b] at h;injection h with h;subst h;subst b;exact⟨cU _,cU _,c,w,aJ rfl⟩
      ·rw[aL b] at h;exact⟨e9 _ (i x q h).1,e9 _ (i x q h).2.1,by rw[S n (i x q h).2.1];exact(i x q h).2.2⟩
theorem zd:∀{H:List Nat} {x p:Nat},(ik H A).lookup x=ac p→x∈iK A∧p∈H:=by
 induction A with
 |nil=>intro H x p h;induction H<;>injection h
 |cons a A i=>
  intro H x p h;induction H using cn with
  |nil=>injection h
  |cons q H=>induction a with
   |inl d=>exact(i h).imp_right (e9 _)
   |inr y=>
    have h:kj x ((y,q)::ik H A)=ac p:=h;rw[ne] at h;by_cases b:x=y
    ·rw[aJ b] at h;injection h with h;subst h;exact⟨b▸cU _,cU _⟩
    ·rw[aL b] at h;exact(i h).imp (e9 _) (e9 _)
theorem Nm:∀{H:List Nat} {x y p:Nat},H.Nodup→(ik H A).lookup x=ac p→(ik H A).lookup y=ac p→x=y:=by
 induction A with
 |nil=>intro H x y p _ h;induction H<;>injection h
 |cons a A i=>
  intro H x y p n h g;induction H using cn with
  |nil=>injection h
  |cons q H=>induction a with
   |inl d=>exact i (gn.mp n).2 h g
   |inr z=>
    have b:kj x ((z,q)::ik H A)=ac p:=h;have G:kj y ((z,q)::ik H A)=ac p:=g;clear h g;rw[ne] at b G;have N {x:Nat} (h:(ik H A).lookup x=ac q):False:=(gn.mp n).1 (zd h).2;by_cases e:x=z
    ·rw[aJ e] at b;injection b with b;subst b;by_cases c:y=z
     ·rw[e,c]
     ·rw[aL c] at G;exact(N G).elim
    ·rw[aL e] at b;by_cases c:y=z
     ·rw[aJ c] at G;injection G with G;subst G;exact(N b).elim
     ·have G:=aL c▸G;exact i (gn.mp n).2 b G
theorem Qg:∀{H:List Nat} {s:List fJ} {cs:List b0} {L g:au},(iK A).Nodup→ll ζ A=ac s→qS f H s=ac cs→qd (iK A) cs L=ac g→
  (∀y,y∉iK A→bG y g=bG y L)∧∀x p,(ik H A).lookup x=ac p→x∈iK A∧∃l q Q,bG x L=ac (gX l q)∧bG p f=ac (.a Q)∧bG x g=ac (gX l Q):=by
 induction A with
 |nil=>intro H s cs L g _ _ _ e;induction cs<;>cases e;exact⟨fun _ _=>rfl,fun x p h=>by induction H<;>injection h⟩
 |cons R A i=>
  intro H s cs L g n w E t;induction R with
  |inl d=>
   refine w4 w fun u F e=> ?_;subst e;induction H using cn with
   |nil=>exact(i (H:=[]) n F (by induction u<;>exact E) t).imp_right fun h x p e=>by injection e
   |cons p H=>exact i n F E t
  |inr y=>
   refine wH w fun c u η F e=> ?_;subst e;obtain⟨N,T⟩:=gn.mp (n);induction H using cn with
   |nil=>injection E with E;subst E;injection t
   |cons p H=>
    have E:(match bG p f with|some (.a c)=>(qS f H u).map (c::·)|_=>ah)=ac cs:=E
    induction v:bG p f with
    |none=>have E:=v▸E;injection E
    |some S=>
     rw[v] at E;induction S with
     |a C=>
      refine ay (dg.mp E) fun U V W=> ?_;subst W;refine ay (jG.mp (show(jr y C L).bind (qd (iK A) U)=ac g from t)) fun X r Z=> ?_;obtain⟨I,α⟩:=i T F V Z;have k:∃l q,bG y L=ac (gX l q):=by
       unfold jr at r;generalize bG y L=o at r⊢;induction o with
       |none=>injection r
       |some S=>
        induction S with
        |l d=>injection r
        |own c=>exact oZ ai _ rfl
        |a c=>exact oZ af _ rfl
      refine oy k fun l q B=> ?_;have D:=xO B r;have G {z:Nat} (h:z≠y):bG z X=bG z L:=(aS (bG z) D).trans (kW.trans (aL h));refine⟨fun z M=>(I z fun m=>M (e9 _ m)).trans (G fun e=>M (e▸cU _)),fun x P h=> ?_⟩;have h:kj x ((y,p)::ik H A)=ac P:=h;rw[ne] at h;by_cases b:x=y
      ·rw[aJ b] at h;exact⟨b▸cU _,mT l q C (b▸B) (bD h▸v) ((I x (b▸N)).trans ((aS (bG x) D).trans (kW.trans (aJ b))))⟩
      ·rw[aL b] at h;obtain⟨m,β,γ,δ,j,ε⟩:=α x P h;exact⟨e9 _ m,iT β γ δ ((G b).symm.trans j) ε⟩
     |_=>injection E
end
variable{wn:bZ×Nat}
noncomputable def LM (o:Option cj):Bool:=match o with
 |some o=>(match o.data with
  |.func _=>af
  |_=>ai)
 |none=>ai
theorem F0 (P:bY):(jb.all fun r=>LM ((cO P).get? r.2.1))=true:=by kernel_rfl
theorem sL:(jb.all fun p=>fx 1000 p.1||mo p.1==p.2.1)=af∧(j0.all fun p=> !fx 1000 p.2)=af∧(j0.all fun p=> !(p.1==("__debug__":br)))=af∧(nL.all fun c=>mo c.1==c.2)=true:=by decide+kernel
theorem Nb (P:bY):(wF.map fun m=>(lZ (hu P) (am (eL m.1)) (cW m.2.1),typeIn (hu P) (am m.2.2.2),(jb.lookup m.2.2.1).map (·.1),fx iE.length m.2.1,m.2.1==2))=wF.map fun m=>(ac (ac (am m.2.2.2)),ac (bn "function"),ac m.2.2.2,ai,ai):=by kernel_rfl
theorem KL (P:bY) {g:Nat} {f:Nat×Nat} (h:jb.lookup g=ac f):∃o fd,(cO P).get? f.1=ac o∧o.data=pP fd:=by
 have:=cH.mp (F0 P) _ (hW h);induction e:(cO P).get? f.1 with
 |none=>rw[e] at this;exact aR this cp
 |some o=>
  rw[e] at this;have this:(match o.data with|.func _=>af|_=>ai)=true:=this
  induction d:o.data with
  |func fd=>exact⟨o,fd,rfl,d⟩
  |_=>rw[d] at this;exact aR this cp
section
variable{X X0:dS} {Z:d1→Prop} {r:gE} {c:dq} {G G' G1:bM} {L L':au} {Y st':ar} {s s':ct} {E:aV→ct→Prop} {mg mb:br→Option aV} {a b m:bt} {ea eb em:c6} {pos p':Pos} {n:Nat}
theorem lD.mono {bb:Bool} (p:bV bb c G G' L Y s) {a:aj⊕Nat} {v:aV} (h:lD G a v):lD G' a v:=by
 induction a with
 |inl d=>exact a8.mono p.l.ld h
 |inr x=>exact h.imp fun a h=>h.imp_right fun h b l e=>h b l (p.h b l x e)
theorem Jt {ms:List Bool} {m:bt} {x:Nat} (h:sA ms m L=ac x):m=.f x∧∃q,gR x L=ac q:=by
 rcases ms with _|⟨_|_,r⟩
 ·exact nomatch h
 ·exact nomatch h
 ·induction m using bt.casesOn with
  |f y=>have q:=dx h;have e:=bD q.2;exact⟨e▸rfl,e▸mW.mp q.1⟩
  |_=>exact nomatch h
theorem zM (R:b2 wn X Z r) (o:bj wn c) {f:List bt}:∀{l:List c6} {ms:List Bool} {G:bM},eM c.sc f l=af→dr X Z c ai G (fun G A vs=>dM (lD G) A vs) (nh r ms f) (lW (gL pos (gt (dJ f l) c.env))):=by
 induction f with
 |nil=>intro l ms G h L Y s j Q E k w q;exact pG (q (d:=[]) (.of k) cI w)
 |cons m f i=>
  intro l ms G h L Y s j Q E k w q;obtain⟨u,y⟩:=bS.mp h;show aH _ _ (lW (gL pos (gt (bz m (l.headD fy)::dJ f l.tail) c.env))) Q E s;rw[(hV u).a];have w:aQ X Z (match sA ms m L with
   |some x=>nh r ms.tail f L Y fun A L Y=>j (jm x::A) L Y
   |none=>r.e m L Y fun d L Y=>nh r ms.tail f L Y fun A L Y=>j (fS d::A) L Y):=w
  induction v:sA ms m L with
  |none=>rw[v] at w;exact m5 (R o u k w fun p d w=>i y p.k w fun P D w=>q (d:=fS _::_) (p.low.tr P) (cy (d.mono P.l.ld) D) w)
  |some x=>
   rw[v] at w;obtain⟨rfl,z,C⟩:=Jt v;obtain⟨F,g⟩:=np C;refine ay (k.peek g) fun a I t=>m5 (qJ o u I (i y k w fun P D w=>q (d:=jm x::_) P (cy (lD.mono P ⟨a,rfl,fun b l e=> ?_⟩) D) w));obtain⟨_,_,M,B,_⟩:=k.ok _ _ e;rw[g] at B;cases(kB (bD B)).1;exact k.solo _ _ (bQ F x) trivial e t
theorem Gv {R:rQ} {h:fT} (k:aU c G L Y s) {A:List (aj⊕Nat)}:∀{H:List Nat} {j:List fJ} {vs:List aV} {D:List aj} {f:au},(iK A).Nodup→dM (lD G) A vs→ll L A=ac j→j8 H j D=ac f→(∀x p,(ik H A).lookup x=ac p→R.lookup x=ac p)→w1 (iI R h G) H j vs:=by
 induction A with
 |nil=>intro H j vs D f _ v e _ _;injection e with e;subst e;cases v;induction H<;>trivial
 |cons a A i=>
  intro H j vs D f C v e o w;cases v with
  |cons I v=>
  induction a with
  |inl d=>
   refine w4 e fun z F e=> ?_;subst e;induction H using cn with
   |nil=>injection o
   |cons p H=>
    exact ay (dg.mp (show(j8 H z D).map ((p,.l d)::·)=ac f from o)) fun M B _=>⟨a8.mono uV I,i C v F B w⟩
  |inr y=>
   refine wH e fun q z P F e=> ?_;subst e;obtain⟨N,Q⟩:=gn.mp (show(y::iK A).Nodup from C);induction H using cn with
   |nil=>injection o
   |cons p H=>
    refine ay (dg.mp (show(j8 H z D).map ((p,.a q)::·)=ac f from o)) fun M B _=> ?_;obtain⟨l,g⟩:=np P;refine ay (k.peek g) fun b _ t=>ay I fun a S u=> ?_;subst S;cases u b l t;refine⟨⟨_,rfl,w_ t (w y p (ne.trans (aJ rfl)))⟩,i Q v F B fun x p' h=>w x p' (ne.trans ((aL ?_).trans h))⟩;rintro rfl;exact N (zd h).1
theorem A6 (F:iG c.w n X.call) (k:aU c G L Y s) {g:Nat} {i:List (aj⊕Nat)} {vs:List aV} {K:aj→au→ar→aT} (I:dM (lD G) i vs) (w:aQ X Z (mV g i L Y K)):∃f,jb.lookup g=ac f∧
  ∀{A:pO} {R:Result→ct→Prop},o4 n A→(∀{d L' st' G' v s'},bV ai c G G' L' st' s'→a8 G' d v→aQ X Z (K d L' st')→R (jJ (.ret v)) s')→oi (aN aC c.w) A (.call (am f.1) ⟨vs,[]⟩) R s:=by
 obtain⟨j,w⟩:=f7 w;have j:=yI j;induction ea:ll L i with
 |none=>rw[ea] at w;exact w.elim
 |some γ=>
  rw[ea] at w;refine hQ w ?_;clear w;intro d C st' N w;obtain⟨f,H,δ,ε,P,t,u,Q⟩:=F N;have w:aQ X Z (match qd (iK i) C L with|some L=>K d L st'|none=>.a):=w
  induction eb:qd (iK i) C L with
  |none=>rw[eb] at w;exact w.elim
  |some L'=>
   rw[eb] at w;obtain⟨M,S⟩:=HV t ea u;refine⟨f,P,fun o q=>Q o (k.call (R:=ik H i) (fun x p h=> ?_) fun x y p=>Nm t) (Gv k j I ea u fun _ _ h=>h) fun{v s' G' ζ} l T e D=> ?_⟩
   ·obtain⟨_,_,z,U,V⟩:=S x p h;exact(np U).imp fun l h=>⟨z,h,V⟩
   ·obtain⟨B,W⟩:=Qg j ea e eb;obtain⟨p,α⟩:=k.back T l (fun y β=>B y fun m=>by have:=M y m;rw[β] at this;injection this) fun x p h=>(W x p h).2;exact q p (D.mono α) w
theorem zh (F:iG c.w n X.call) (k:aU c G L Y s) {f:Nat×Nat} {g:Nat} (i:jb.lookup g=ac f) {ts:List (h8 aV)} {prev:List aV} {Q:aV→ct→Prop} (ro:o4 n c.A)
  (h:aH (aN aC c.w) c.A (lW (dO ts)) (fun vs j=>∃G1 l S A K,aU c G1 l S j∧dM (lD G1) A (prev++vs)∧aQ X Z (mV g A l S K)∧∀{d L' st' G' v s'},bV ai c G1 G' L' st' s'→a8 G' d v→aQ X Z (K d L' st')→Q v s') E s):
  aH (aN aC c.w) c.A (kl pos (am f.1) prev (dO ts) []) Q E s:=by
 refine bK (KL c.w.params i) fun o fd t u=>callWith_function (o:=o) (fd:=fd) (wE (d9 h (fun vs j z=>FH z fun G1 l S A K p x w q=>⟨⟨(p.head t).1,u⟩,(ay (A6 F p x w) fun C y B=> ?_)⟩) fun _ _ h=>h));have e:=bD (i.symm.trans y);subst e;exact yw (B ro @q)
end
variable{wn:bZ×Nat}
theorem B3 (h:(j0.any fun p=>p.2==g)=af):∃p∈j0,p.2=g∧d_ g=p.1:=by
 unfold d_;induction f:j0.find? fun p=>p.2==g with
 |none=>exact ay (t4.mp h) fun p a e=>aR e (List.find?_eq_none.mp f p a)
 |some p=>exact g2 p (Q4 f) (iv (Sb (p:=fun p:br×Nat=>p.2==g) f)) rfl
theorem B5 (h:(j0.any fun p=>p.2==g)=af):g<1000∧(d_ g==("__debug__":br))=false:=by
 refine eA (B3 h) fun p a y e=> ?_;subst y;refine⟨f' fun z=> ?_,e▸l' (cH.mp sL.2.2.1 p a)⟩;have:=l' (cH.mp sL.2.1 p a);rw[DF z] at this;injection this
theorem MA (h:jb.lookup g=ac f) (a:g<1000):mo g=f.1:=by
 rcases(dK ..).mp (cH.mp sL.1 _ (hW h)) with e|e
 ·exact absurd (Nat.le_of_ble_eq_true e) (Nat.not_le_of_lt a)
 ·exact eq_of_beq e
section
variable{Y:ar}
theorem bj.f (o:bj wn c):o4 c.n c.A:=⟨o.b,ao (ci (by decide) _) o.d,ao (ci (by decide) _) o.j⟩
theorem vL (B:er c.w mg mb) (o:bj wn c) (k:aU c G L Y s) (b:mq c.sc g=af) (d:fx 100 g=af) (t:gL pos (gt e c.env)=dO ts) (h:aH (aN aC c.w) c.A (kl pos (am (mo g)) [] (dO ts) []) Q E s):
  aH (aN aC c.w) c.A (bO (i1 (ey (d_ g) p') e [] pos) c.env) Q E s:=by
 refine(bS.mp b).elim fun f a=> ?_;have a:=(bS.mp a).1;exact SL (A9 B o k f (B5 a).2 (B.funs g a (lM d)) (ak t h))
theorem Ms {T:ha} (F:iG c.w c.n X.call) (R:b2 wn X Z r) (B:er c.w mg mb) (o:bj wn c) (j:mq c.sc g=af) (m:fx 100 g=af) (i:kD g=ah) (h:eM c.sc e l=af):
  dr X Z c ai G a8 (fun L Y K=>nh r (T.modes g) e L Y fun a L Y=>mV g a L Y K) (bO (i1 (ey (d_ g) p') (dJ e l) [] pos) c.env):=by
 intro L Y s K Q E k w q;obtain⟨u,t⟩:=wo h;obtain⟨_,b⟩:=bS.mp j;obtain⟨b,n⟩:=bS.mp b;rw[m,i] at n;obtain⟨v,f⟩:=mW.mp (n);exact vL B o k j m t (ak (MA f (B5 b).1) (zh (Z:=Z) F k f o.f (ak (cB t) (zM R o h k w fun p A w=>yL _ _ _ _ _ p.k A w (fun P d w=>q (p.tr P) d w)))))
theorem Di {m:Nat} (h:oU i m=ac g):∃a,lZ (hu P) (am (eL i)) (cW m)=ac (ac (am a))∧typeIn (hu P) (am a)=ac (bn "function")∧(∃x,jb.lookup g=ac (a,x))∧m<iE.length∧m≠2:=by
 refine ay (dg.mp h) fun p b y=> ?_;subst y;have d:=Sb b;refine(bS.mp d).elim fun e E=> ?_;have q:=jH.mp (Nb P) _ (Q4 b);injection q with f q;injection q with j q;injection q with k q;injection q with Q c;cases iv e;cases iv E;refine ay (dg.mp k) fun l n o=> ?_;obtain⟨a,x⟩:=l;subst o;refine vz _ f j (⟨x,n⟩) (f' fun z=> ?_) (fun z=> ?_)
 ·rw[DF z] at Q;injection Q
 ·rw[z] at c;injection c
theorem FA (F:iG c.w c.n X.call) (R:b2 wn X Z r) (z:bj wn c) {n:Nat} (h:eM c.sc f l=af) (e:gL pos (gt (dJ f l) c.env)=dO ts) {K:aj→au→ar→aT} {a:bp} (k:aU c G L Y s) (t:G a=ac (ga j))
  (w:aQ X Z (vP T r j n f L Y K)) (q:∀{d B st' C v S},n≠2→bV ai c G C B st' S→a8 C d v→aQ X Z (K d B st')→Q v S):aH (aN aC c.w) c.A (m6 (am a) (cW n) ι) (fun p N=>aH (aN aC c.w) c.A (kl p' p.1 p.2 (dO ts) []) Q E N) E s:=by
 unfold vP at w;induction b:Y[j]?with
 |none=>have w:=b▸w;exact w.elim
 |some i=>
  rw[b] at w;have w:aQ X Z (match(if(i.attrs.lookup n).isNone then oU i.cls n else ah) with
   |some g=>nh r (T.modes g).tail f L Y fun A L Y=>mV g (fS (an j)::A) L Y K
   |none=>.a):=w
  induction m:(if(i.attrs.lookup n).isNone then oU i.cls n else ah) with
  |none=>have w:=m▸w;exact w.elim
  |some g=>
   rw[m] at w;refine(dx m).elim fun U m=>vK (Di (P:=c.w.params) m) fun κ V W y α β=>y.elim fun x γ=>k.inst t fun δ o μ ν M I=> ?_;have ε:δ=i.cls:=by have:=I.cls;unfold fX at this;rw[b] at this;exact(bD this).symm
   refine iD (wf c.w.params I.ok) fun ζ u _ _=> ?_;have η:M (cW n)=none:=by
    have:=I.attrs n α;unfold fo at this;rw[b] at this;have this:l_ G j n (M (cW n)) ((i.attrs.lookup n).map mJ):=this;rw[Option.isNone_iff_eq_none.mp U] at this;exact this
   refine method_fn k.kf I.inst ζ u (ε▸V) W (by unfold shadowIn;dsimp only;rw[I.look,η];rfl) ?_;refine zh (prev:=[am a]) (Z:=Z) F k γ z.f ?_;exact ak (cB e) (zM R z h k w fun p θ w=>yL _ _ _ _ _ p.k (cy (show lD _ (fS (an j)) (am a) from⟨a,rfl,p.l a (ga j) trivial t⟩) θ) w (fun u D w=>q β (p.tr u) D w))
end
theorem Cf (P:bY):(nL.all fun c=>makesIn (hu P) c.2)=true:=by kernel_rfl
theorem Pb (P:bY):([252,257,273].map fun c=>lZ (hu P) (am (eL c)) "__init__")=[252,257,273].map fun c=>ac (ac (bJ "object.__init__")):=by kernel_rfl
theorem Iv:cW 34=gp "__init__":=by decide+kernel
theorem s4 {Y:ar} (h:k<Y.length):fX (Y++[i]) k=fX Y k∧∀x,fo (Y++[i]) k x=fo Y k x:=by
 unfold fX fo;exact ak (jF h) (⟨rfl,fun _=>rfl⟩)
theorem p4 {Y:ar} (h:fX Y k=ac i):k<Y.length:=(dg.mp h).elim fun _ h=>(hy.mp h.1).1
theorem Qt {Y:ar} (h:fo Y k x=ac i):k<Y.length:=(jG.mp h).elim fun _ h=>(hy.mp h.1).1
section
variable{c:dq} {Y:ar}
theorem aU.born (k:aU c G L Y s) {g:Nat} (u:j6 g=af) (m:r=dt (dt G s.heap.objs.size (g8 Y.length)) (s.heap.objs.size+1) (ga Y.length)):bV ai c G r L (Y++[⟨g,[]⟩]) {s with heap:=(s.heap.push lU).push (k7 (eL g) s.heap.objs.size)}∧a8 r (an Y.length) (am (s.heap.objs.size+1)):=by
 have p:∀b o,s.heap.get? b=ac o→((s.heap.push lU).push (k7 (eL g) s.heap.objs.size)).get? b=ac o:=fun b o e=>iq _ (iq _ e);have z:((s.heap.push lU).push (k7 (eL g) s.heap.objs.size)).get? s.heap.objs.size=ac emptyDict:=iq _ (g4 _ rfl);have A:((s.heap.push lU).push (k7 (eL g) s.heap.objs.size)).get? (s.heap.objs.size+1)=ac (k7 (eL g) s.heap.objs.size):=by
  have:=g4 (s.heap.push lU) (o:=k7 (eL g) s.heap.objs.size) rfl;rwa[yc] at this
 have n:s.heap.objs.size≠s.heap.objs.size+1:=hZ (lO _);have N:dt G s.heap.objs.size (g8 Y.length) (s.heap.objs.size+1)=none:=(hN n.symm).trans (k.free (by
  induction e:s.heap.get? (s.heap.objs.size+1) with
  |none=>rfl
  |some o=>exact aR (ki e) (e7 (fQ _))))
 have l:=m▸(jX (b:=af) k.B).trans (jX (b:=af) N);have I {a:bp} {t:fl} (e:r a=ac t):(a=s.heap.objs.size+1∧t=ga Y.length)∨(a=s.heap.objs.size∧t=g8 Y.length)∨G a=ac t:=by
  subst m;exact(gk e).imp id fun e=>(gk e.2).imp id fun e=>e.2
 have d {t:fl} {a:bp} (S:t=ga Y.length∨t=g8 Y.length) (e:G a=ac t):False:=by
  refine ay (k.ok _ _ e) fun o _ h=> ?_;rcases S with rfl|rfl
  ·refine bK h ?_;clear h;intro c _ h _;exact Nat.lt_irrefl _ (p4 h)
  ·obtain⟨i,q⟩:=Option.isSome_iff_exists.mp h.1;exact Nat.lt_irrefl _ (p4 q)
 have w:fX (Y++[⟨g,[]⟩]) Y.length=some g:=by unfold fX;rw[List.getElem?_append_right (Nat.le_refl _),Nat.sub_self];rfl
 have C:∀x,fo (Y++[⟨g,[]⟩]) Y.length x=none:=fun x=>by unfold fo;rw[jE (bv _),pE];rfl
 refine⟨⟨l.low,fun a f x e=>(I e).elim (fun h=>nomatch h.2) fun h=>h.elim (fun h=>nomatch h.2) id,(k.step l.ls (k.bs l.low) (fun a t e=> ?_) (fun a b t S x y=> ?_) fun x D h=>(k.fr x D h).imp fun v y=>y.imp (iF.mono l.ls fun b o _=>p b o) (jw.mono l.ls fun b _ h=> ?_))⟩,_,rfl,(m▸hL)⟩
 ·rcases I e with⟨rfl,rfl⟩|⟨rfl,rfl⟩|e
  ·exact .inl ⟨_,A,g,_,w,u,rfl,(fun _ h=>(by injection h)),rfl,(m▸(hN n).trans hL)⟩
  ·refine .inl ⟨_,z,by rw[w];rfl,fun _=>none,fun h a e=>Heap.Ns1.of_empty ⟨_,#[],0,e,rfl,fun _ F=>absurd F (Array.not_mem_empty _),fun _=>rfl⟩,fun x M=> ?_,fun _ _=>rfl⟩;rw[C];rfl
  ·refine .inr ⟨e,fun o=>p a o,(ay (k.ok _ _ e) fun o _ h=> ?_)⟩;induction t with
   |inst j=>exact h.elim fun c h=>h.elim fun _ h=>(s4 (p4 h.1)).1
   |box j x=>exact h.elim fun c h=>(s4 (Qt h.1)).2 x
   |dict j=>obtain⟨i,q⟩:=mW.mp h.1;exact⟨(s4 (p4 q)).1,fun x=>⟨by rw[(s4 (p4 q)).2 x],fun b h=>l b _ (av rfl) h⟩⟩
   |slot f x=>exact rfl
   |_=>exact trivial
 ·rcases I x with⟨rfl,rfl⟩|⟨rfl,rfl⟩|X
  ·rcases I y with⟨rfl,_⟩|⟨_,h⟩|y
   ·rfl
   ·injection h
   ·exact(d (.inl rfl) y).elim
  ·rcases I y with⟨_,h⟩|⟨rfl,_⟩|y
   ·injection h
   ·rfl
   ·exact(d (.inr rfl) y).elim
  ·rcases I y with⟨_,rfl⟩|⟨_,rfl⟩|y
   ·exact(d (.inl rfl) X).elim
   ·exact(d (.inr rfl) X).elim
   ·exact k.solo a b t S X y
 ·exact m▸(hN (by rintro rfl;rw[hN n.symm] at N;rw[N] at h;injection h)).trans ((hN (by rintro rfl;rw[k.B] at h;injection h)).trans h)
theorem BN {C:bp} (h:aH (aN aC c.w) c.A (lW (dO ts)) (fun vs S=>Makes (aN aC c.w) S.heap C∧aH (aN aC c.w) c.A (gN (am C) vs) Q E S) E s):aH (aN aC c.w) c.A (kl pos (am C) [] (dO ts) []) Q E s:=by
 refine aG (eF (wE (d9 h (fun vs S a=>aG (fw ?_)) fun _ _ x=>x)));obtain⟨M,b⟩:=a;refine ak (wz (ts:=ts)).1 ?_;exact aG (sp M.obj fun o d g l e _=>(aG (wpAny_load e (aG (M.call.here (bo (ak (aJ (by simp)) (aG (d9 b (fun v i f=>aG (eF (wpAny_point (bo f)))) fun _ _ x=>x)))))))))
end
variable{wn:bZ×Nat}
section
variable{Y:ar}
theorem Bd (C:bp) (vs:List aV):(ud "type.__call__" ⟨am C::vs,[]⟩).weight=1∧(ud "type.__call__" ⟨am C::vs,[]⟩).cUnits=1:=⟨by kernel_rfl,by kernel_rfl⟩
theorem bj.under (o:bj wn c) {C:bp}:o4 c.n (c.A.under (ud "type.__call__" ⟨am C::vs,[]⟩)):=by
 refine⟨o.b, ?_, ?_⟩
 ·have U:=o.d;refine((ak ((Bd C vs).1) ?_):c.A.depth+(ud "type.__call__" ⟨am C::vs,[]⟩).weight+_+_≤_);exact cD (.c 1 (.a (.a .b (.m 8 .f)) (.n 8)) (.n 900) (.g 1 (.a (.a (.a .b .n1) (.m 8 .f)) (.n 4)) (.n 900))) rfl U
 ·have U:=o.j;refine((ak ((Bd C vs).2) ?_):c.A.units+(ud "type.__call__" ⟨am C::vs,[]⟩).cUnits+_+_≤_);exact cD (.c 1 (.a (.a .b (.m 40 .f)) (.n 40)) (.n 9000) (.g 1 (.a (.a (.a .b .n1) (.m 40 .f)) (.n 20)) (.n 9000))) rfl U
theorem MG (h:kD g=ac ah):g∈[252,257,273]:=by
 unfold kD at h;split at h
 ·exact ee.mp (by assumption)
 ·exact(dg.mp h).elim fun _ h=>nomatch h.2
theorem L2 (h:kD g=ac (ac i)):oU g 34=ac i:=by
 unfold kD at h;split at h
 ·cases h
 ·exact(dg.mp h).elim fun _ h=>by cases h.2;exact h.1
theorem BJ (h:j6 g=af):mo g=eL g:=iv (cH.mp sL.2.2.2 _ (tb h))
theorem MS (h:dw G ds vs):dM (lD G) (ds.map fS) vs:=by
 exact h.rec cI fun a _ i=>cy a i
theorem NG (B:er c.w mg mb) (j:bj wn c) (l:mq c.sc g=af) (m:fx 100 g=af) (i:kD g=ac ah) (a:j6 g=af):dr X Z c ai G a8 (fun L Y K=>K (an Y.length) L (Y++[⟨g,[]⟩])) (bO (i1 (ey (d_ g) p') [] [] pos) c.env):=by
 intro L Y s K Q E k w q;refine vL (ts:=[]) B j k l m rfl (ak (BJ a) (BN (pG ?_)));have f:=makes_of (M:=aN aC c.w) k.kf (cH.mp (Cf c.w.params) _ (tb a));refine⟨f,yw ?_⟩;obtain⟨p,d⟩:=k.born a rfl;obtain⟨h,n,D,r,u⟩:=s;have N:(((h.push lU).push (k7 (eL g) h.objs.size))).get? (h.objs.size+1)=ac (k7 (eL g) h.objs.size):=by
  have:=g4 (h.push lU) (o:=k7 (eL g) h.objs.size) rfl;rwa[yc] at this
 refine make_core f (looks_findIn k.kf (jH.mp (Pb c.w.params) g (MG i))) (fun S=>Looks.of_pure (oi_bind S)) (aI ⟨rfl,rfl⟩) ?_;have t:Looks (aN aC c.w) ((h.push lU).push (k7 (eL g) h.objs.size)) (typeOf (am (h.objs.size+1))) (am (eL g)):=(Looks.ld N).andThen .now;have T:Looks (aN aC c.w) ((h.push lU).push (k7 (eL g) h.objs.size)) (isInstance (am (h.objs.size+1)) (bn "object")) true:=t.andThen (f.top.keeps fun b o e=>iq _ (iq _ e));refine codeAny_call_builtin oi_plain entry_oi (@check_slot (aN aC c.w) _ _ _ "object.__init__" "object" "__init__" (am (h.objs.size+1)) [] [] _ oi_kind oi_split T (oi_args (am (h.objs.size+1))) ?_);rw[oi_run];exact bo (EM rfl (q p d w))
theorem MY (F:iG c.w c.n X.call) (R:b2 wn X Z r) (B:er c.w mg mb) (o:bj wn c) {g:Nat} (C:mq c.sc g=af) (N:fx 100 g=af) (i:kD g=ac (ac I)) (j:j6 g=af) (h:eM c.sc e l=af):
  dr X Z c ai G a8 (fun L Y K=>gW r e L Y fun ds L Y=>mV I (fS (an Y.length)::ds.map fS) L (Y++[⟨g,[]⟩]) fun d L st'=>match d with
   |.none=>K (an Y.length) L st'
   |_=>.a) (bO (i1 (ey (d_ g) p') (dJ e l) [] pos) c.env):=by
 intro L Y s K Q E k w q;obtain⟨T,t⟩:=wo h;refine vL B o k C N t (ak (BJ j) (BN (sV R o h t k w fun p v w=> ?_)));rename_i ds ε S ζ V U;have b:=p.k;have n:=makes_of (M:=aN aC c.w) b.kf (cH.mp (Cf c.w.params) _ (tb j));refine qx (Di (P:=c.w.params) (L2 i)) fun A u W y _=> ?_;obtain⟨x,α⟩:=y;rw[Iv] at u;refine⟨n,yw ?_⟩;obtain⟨m,D⟩:=b.born j rfl;refine ay (A6 F m.k (cy (show lD _ (fS (an S.length)) _ from D) (MS (v.1.mono m.l.ld))) w) fun η a β=> ?_;rw[α] at a;injection a with a;subst a;obtain⟨θ,ι,κ,μ,ν⟩:=U;refine make_core n (looks_findIn b.kf u) (fun f=>bind_fn b.kf f W) (av rfl) (β o.under fun z γ w=> ?_);rename_i δ ξ ο π ρ σ;induction δ using aj.casesOn with
 |none=>cases(γ);exact⟨rfl,q ((p.low.tr m).tr z) (D.mono z.l.ld) w⟩
 |_=>exact w.elim
theorem JE (F:iG c.w c.n X.call) (R:b2 wn X Z r) (B:er c.w mg mb) (a:bj wn c) (b:mq c.sc g=af) (d:fx 100 g=af) (h:eM c.sc e l=af):dr X Z c ai G a8 (u9 T r g e) (bO (i1 (ey (d_ g) p') (dJ e l) [] pos) c.env):=by
 intro L Y s j Q E k w q;unfold u9 at w;induction i:kD g with
 |none=>rw[i] at w;exact Ms F R B a b d i h k w q
 |some o=>
  rw[i] at w;induction o with
  |none=>induction e using cn with
   |nil=>refine(f7 w).elim fun f w=> ?_;exact NG B a b d i f k w q
   |cons _ _=>exact w.elim
  |some I=>refine(f7 w).elim fun f w=> ?_;exact MY F R B a b d i f h k w q
theorem PS (F:iG c.w c.n X.call) (R:b2 wn X Z r) (B:er c.w mg mb) (o:bj wn c) (h:b_ c.sc (ap g a) e=af):dr X Z c ai G a8 (wS T r g a) (bO (bz (ap g a) e) c.env):=by
 intro L Y s f Q E k w q;obtain⟨d,h⟩:=bS.mp (show(mq c.sc g&&eM c.sc a (eu e).tail)=af from h);unfold wS at w;induction b:fx 100 g with
 |true=>rw[b] at w;exact JE F R B o d b h k w q
 |false=>rw[b] at w;exact Pf B R o (bS.mp d).1 h k w q
theorem CO (h:(bt.u a n e).simple=af):a.simple=af∧e=[]∧n=2:=by
 induction e using cn with
 |cons _ _=>cases a<;>exact aR h cp
 |nil=>induction a using bt.casesOn with
  |attr b x=>have h:=bS.mp h;exact⟨h.1,rfl,iv h.2⟩
  |_=>exact aR h cp
theorem bV.le {b:Bool} (p:bV b c G g L Y s) (h:b'=af→b=af):bV b' c G g L Y s:=⟨p.l.le h,p.h,p.k⟩
theorem E2 (F:iG c.w c.n X.call) (R:b2 wn X Z r) (o:bj wn c) (h:b_ c.sc (.u a n f) e=af):dr X Z c (bt.u a n f).simple G a8 (z1 T r a n f) (bO (bz (.u a n f) e) c.env):=by
 intro L Y s N Q E k w q;refine HU R o h k w fun p C i m w=> ?_;rename_i z l U g v V W α;have S {b:Bool} (B:f=[]→b=af) (h:(bt.u a n f).simple=af):(a.simple&&b)=true:=by
  refine dQ (CO h) fun I u _=>ak I (ak (B u) ?_);rfl
 induction z with
 |slot x=>exact OD R o i m p.k C w fun P D w=>q ((p.tr P).le (S fun e=>by refine ak e ?_;rfl)) D w
 |sq d=>
  induction d using aj.casesOn with
  |inst j=>
   obtain⟨a,rfl,t⟩:a8 g (an j) v:=C.resolve_right fun z=>hQ z fun _ _ _ e _=>(by injection e);exact FA F R o i m p.k t w fun u P D w=>q ((p.tr P).le fun h=>aR (CO h).2.2 u) D w
  |box j x=>
   refine ay C.bx fun a y t=> ?_;subst y;obtain⟨M,w⟩:=f7 w;exact Je R o i m p.k t M w fun P D w=>q ((p.tr P).le (S fun _=>rfl)) D w
  |e β=>
   obtain⟨A,w⟩:=f7 w;have A:=iv A;subst A;exact Gz R o i m p.k (C.resolve_right fun z=>hQ z fun _ _ _ e _=>(by injection e)) w fun P D w=>q ((p.tr P).le (S fun e=>by refine ak e ?_;rfl)) D w
  |_=>exact w.elim
end
section
theorem bI (h:(x&&y)=af):x=af∧y=true:=bS.mp h
theorem Jk (B:er W.1 mg mb) (F:iG W.1 W.2 X.call) (R:b2 W X Z r) (U:hI W X Z r) (P:∀{Z},b2 W D Z r) (S:∀{Z},hI W D Z r) (V:qf X D L r) (M:gE) (α:M.e=p3 T L r):b2 W X Z M:=by
 intro c m e G o z;refine ak α ?_;obtain rfl:=o.r;induction m using bt.casesOn with
 |v=>exact aR z cp
 |h d=>exact Ff B o z
 |f x=>exact GG o z
 |w β a b=>exact Ou (R o (bI z).1) (R o (bI z).2)
 |q a=>exact NR (R (e:=bA 0 e) o z)
 |k β a b=>exact fun C A Q=>wpAny_Compare1 (yU R o (bI z).1 (bI z).2 C A fun p A=>Q (d:=aA _) p rfl A) ((hV (bI z).2).mark _)
 |s p Q a b m=>exact GD R o (bI (bI z).1).1 (bI (bI z).1).2 (bI z).2
 |and E=>exact Bv R o rfl z
 |or E=>exact Bv R o rfl z
 |l x a b=>exact GK (U o (bI (bI z).1).1) (R o (bI (bI z).1).2) (R o (bI z).2)
 |j E=>exact Gx R o z
 |list E=>exact O6 R o z
 |y=>exact Mn
 |sub a i=>exact OG R o (bI z).1 (bI z).2
 |n a γ δ=>exact fun C A Q=>P9 R o (bI (bI z).1).1 (bI (bI z).1).2 (bI z).2 C A fun p=>Q (p.le fun z=>by rw[←Bool.and_assoc];exact z)
 |attr a x=>exact GU R o (bI z).1 (bI z).2
 |call g E=>exact PS F R B o z
 |u a N E=>exact E2 F R o z
 |comp a t I ε=>exact Lv B R P S o V z
theorem H0:lX (gZ d e) E w=(do let v←w;uy (gZ d e).pos;holding [v] (rB v)):=by
 unfold gZ;cases(fE e).c with
 |some q=>rfl
 |none=>induction d using aj.casesOn<;>first|rfl|(cases(fE e).un<;>rfl)
theorem MP (R:b2 W X Z r) (U:hI W X Z r) (M:(∀m L Y K,r.e m L Y K=.a)∨∃T γ N,b2 W X Z N∧r.e=p3 T γ N) (δ:gE) (μ:δ.t=Ak r):hI W X Z δ:=by
 intro C m e G u g;rewrite [μ];have ε (ν:lX (bz m e) C.env (bO (bz m e) C.env)=(do let V←bO (bz m e) C.env;uy (bz m e).pos;holding [V] (rB V))):dr X Z C m.simple G (fun _ A b=>A=b) (fun L Y i=>r.e m L Y fun d L Y=>aT.b (hH d) fun b=>i b L Y) (lX (bz m e) C.env (bO (bz m e) C.env)):=fun i w j=>isTrue_plain (R u g i w fun p D w=>w.elim fun V g=>sP p.k g.1 D fun t=>j ⟨p.l,p.h,p.k.tok t⟩ rfl g.2) ν
 intro L Y S K Q E i w j;induction m using bt.casesOn with
 |v=>exact aR g cp
 |q A=>exact isTrue_not (U (e:=bA 0 e) u g i w fun p e w=>j p.low (aS not e) w)
 |and ξ=>exact AD U u rfl g i w j
 |or ξ=>exact AD U u rfl g i w j
 |k ο A b=>
  show aH _ _ (lX (rz (bz A (bA 0 e)) [ο] [bz b (bA 1 e)] e.pos) C.env _) Q E S;rw[isTrue_Compare1,markedBehindIn_of_false ((hV (bI g).2).mark _)];exact aG (d9 (yU (Q:=fun V S=>aH (aN aC C.w) C.A (rB V) Q E S) (E:=E) R u (bI g).1 (bI g).2 i w fun p w=>rf (j p.low rfl w)) (fun A a₂ π=>aG (eF (d9 π (fun b a₃ ρ=>aG (fw (aG (Eg (d9 ρ (fun C a₄ σ=>eF σ) fun _ _ x=>x))))) fun _ _ x=>x))) fun _ _ x=>x)
 |s o ζ A b m=>
  rcases M with M|⟨T,γ,N,τ,B⟩
  ·have w:aQ X Z (r.e (.s o ζ A b m) L Y _):=w;rw[M] at w;exact w.elim
  ·have w:aQ X Z (r.e (.s o ζ A b m) L Y fun d L Y=>aT.b (.tr d) fun b=>K b L Y):=w;rw[B] at w;exact MO τ u (bI (bI g).1).1 (bI (bI g).1).2 (bI g).2 i w fun p w=>j p rfl w
 |l x A b=>
  refine isTrue_IfExp (U u (bI (bI g).1).1 i w fun P υ w=> ?_);subst υ;rename_i V _ _ _ _;induction V with
  |true=>exact U u (bI (bI g).1).2 P.k w fun α B w=>j (P.tr α).low B w
  |false=>exact U u (bI g).2 P.k w fun α B w=>j (P.tr α).low B w
 |f x=>
  have w:aQ X Z (match bG x L with
   |some (.l d)=>aT.b (hH d) fun b=>K b L Y
   |some (.own C)=>aT.b (hH C.frz) fun b=>K b L Y
   |some (.a C)=>aT.b (hH C.frz) fun b=>K b L Y
   |none=>.a):=w
  induction F:bG x L with
  |none=>have w:=F▸w;exact w.elim
  |some η=>
   rw[F] at w;refine ay (i.fr x η F) fun V φ β=> ?_;have θ {l:Bool} {p:b0} (χ:bG x L=ac (gX l p)) (ψ:∃A,V=am A∧G A=ac (bQ l x)) (w:aQ X Z (aT.b (hH p.frz) fun b=>K b L Y)):aH (aN aC C.w) C.A (rB V) Q E S:=by
    refine ay ψ fun A y t=> ?_;subst y;obtain⟨o,ω,a₅,ι,a₀⟩:=i.ok _ _ t;rw[χ] at ι;cases(kB (bD ι)).2;refine ay w ?_;clear w;intro b I w;induction p with
    |e _=>injection I
    |c a₆=>
     refine cF a₀ fun a₇ n a₁ κ z=> ?_;subst a₁;injection I with I;subst I;refine Sv ⟨_,ω,rfl,n,rfl⟩ (by rw[d2,κ.len];exact oL (jj▸z)) ?_;rw[DH,κ.d];exact j (.of (i.tok _)) rfl w
   refine isTrue_plain (qJ u g φ ?_);induction η with
   |l d=>exact w.elim fun V g=>sP i g.1 β fun t=>j (.of (i.tok t)) rfl g.2
   |own p=>exact θ (l:=ai) F β w
   |a p=>exact θ (l:=af) F β w
 |h d=>exact ε H0 i w j
 |_=>exact ε rfl i w j
end
variable{wn:bZ×Nat}
noncomputable def xb (m:bt):Bool:=match m with
 |.comp _ _ _ _=>af
 |_=>ai
noncomputable def vN (m:bt):Bool:=match m with
 |.j _=>af
 |_=>ai
mutual
noncomputable def f2 (S:gM):eo→di→Bool
 |.v,_=>af
 |.d m,s=>b_ S m (cL s)&& !xb m
 |.h m,s=>b_ S m (cL s)
 |.set x m,s=>iH S x&&b_ S m (cL s)&& !xb m
 |.j x e,s=>iH S x&&eM S e (eu (cL s))
 |.p x,_=>iH S x
 |.g x a t I f,s=>iH S x&&b_ S (dY a t I f) (cL s)
 |.w x a,s=>iH S x&&b_ S (ap 18 [a]) (cL s)
 |.names X m,s=>sv S (.b X)&&b_ S m (cL s)&& !vN m
 |.attr a _ m,s=>b_ S a (bA 0 (dz s))&&b_ S m (cL s)
 |.k a _ e,s=>b_ S a (bA 0 (dz s))&&eM S e (eu (cL s))
 |.n a _,s=>b_ S a (bA 0 (dz s))
 |.sub a i m,s=>b_ S a (bA 0 (dz s))&&b_ S i (bA 1 (dz s))&&b_ S m (cL s)
 |.B x _ m,s=>iH S x&&b_ S m (cL s)
 |.q a _ _ m,s=>b_ S a (bA 0 (dz s))&&b_ S m (cL s)
 |.f t I b,s=>sv S t&&b_ S I (cL s)&&Bx S b (mH s).1
 |.m c b,s=>b_ S c (cL s)&&Bx S b (mH s).1
 |.l c a b,s=>b_ S c (cL s)&&Bx S a (mH s).1&&Bx S b (mH s).2
 |.del a i,s=>b_ S a (bA 0 (dz s))&&b_ S i (bA 1 (dz s))
 |.u a i,s=>b_ S a (bA 0 (dz s))&&b_ S i (bA 0 (bA 1 (dz s)))
 |.y,_=>af
 |.o,_=>af
 |.cont,_=>af
noncomputable def Bx (S:gM):List eo→List di→Bool
 |[],_=>af
 |m::r,d=>f2 S m (d.headD (uE ⟨0,0,0,0⟩))&&Bx S r d.tail
end
def nu (wn:bZ×Nat) (X:dS) (Z:d1→Prop) (r:gE):Prop:=∀{c m s G},bj wn c→Bx c.sc m s=af→r6 X Z c (ku m) G (r.ss m) (execs (BF m s) c.env)
section
variable{Y:ar}
theorem zX (h:b_ s m e=af) (c:xb m=ai) {l:Nat}:pL (bz m e) t l E=dm false:=by
 induction m using bt.casesOn with
 |v=>exact aR h cp
 |comp a t i f=>injection c
 |h d=>
  refine(?_:pL (gZ d e) t l E=_);unfold gZ;cases(fE e).c with
  |some q=>rfl
  |none=>induction d using aj.casesOn<;>first|rfl|(cases(fE e).un<;>rfl)
 |_=>rfl
theorem bj.p (o:bj wn c):interactive c.env=false:=by unfold interactive;refine ak o.l ?_;rfl
def f1 (X:dS) (Z:d1→Prop) (l:Nat) (r:gE) (c:dq) (G:bM) (m:eo) (s:di):Prop:=r6 X Z c m.simple G (CR l r m) (ot (Kn m s) c.env)
section
theorem H2 (R:b2 wn X Z r) (o:bj wn c) (h:f2 c.sc (.d m) S=af):f1 X Z l r c G (.d m) S:=by
 intro L Y s e Q E k w q;obtain⟨a,b⟩:=bI h;exact wpAny_Expr_any (R o a k w fun p d w=>q (f:=a') p.l.low p.k rfl (f7 w).2) o.p (zX a (l' b))
theorem Jp (R:b2 wn X Z r) (o:bj wn c) (h:f2 c.sc (.h m) S=af):f1 X Z l r c G (.h m) S:=by
 intro L Y s a Q E k w q;exact wpAny_Return_some (R o h k w fun p d w=>q (f:=.h _) p.l.low p.k (bd _ rfl d) w)
theorem MF (R:b2 wn X Z r) (o:bj wn c) (h:f2 c.sc (bg x m) S=af):f1 X Z v r c G (bg x m) S:=by
 intro L Y s j Q E k w q;obtain⟨h,b⟩:=bI h;obtain⟨e,a⟩:=bI h;refine t7 (R o a k w fun p d w=> ?_) (zX a (l' b));obtain⟨n,w⟩:=oJ w;exact sr o p.k e n d fun g t l i k=>q (f:=a') (p.l.same (l.le fun _=>rfl)) k rfl w
theorem BL (R:b2 wn X Z r) (f:bj wn c) (h:eM c.sc e l=af) {K:List aj→au→ar→aT} (k:aU c G L Y s) (w:aQ X Z (if e.length≤1000 then gW r e L Y K else .a)) (q:∀{ds a st' g S D o},bV ai c G g a st' S→g D=ah→S.heap.get? D=ac o→cQ c.w g o (.c ds)→aQ X Z (K ds a st')→Q (am D) S):aH (aN aC c.w) c.A (bO (pR (dJ e l) pos) c.env) Q E s:=by
 refine(f7 w).elim fun z w=> ?_;rw[arm_eval_List];refine aG (fw (aG (r5 R f h k w fun p d w=> ?_)));have b:=qj (d.2▸z);refine EC (q (p.push _) p.k.B (g4 _ rfl) (es _ _ rfl d.1 b) w) (by rw[d.1.len];exact b)
theorem y' (k:aU c G L Y s) (q:∀{S D o},bV ai c G G L Y S→G D=ah→S.heap.get? D=ac o→cQ c.w G o (.e [])→Q (am D) S):aH (aN aC c.w) c.A (bO (uF [] [] pos) c.env) Q E s:=
 SK (q ((bV.of (b:=ai) k).push {cls:=bn "dict",data:=k9 #[]}) k.B (g4 _ rfl) (BE c G))
theorem Jm (R:b2 wn X Z r) (o:bj wn c) (h:f2 c.sc (.j x e) S=af):f1 X Z v r c G (.j x e) S:=by
 intro L Y s j Q E k w q;obtain⟨a,b⟩:=bI h;refine t7 (BL R o b k w fun p n d i w=> ?_) rfl;obtain⟨N,w⟩:=oJ w;exact sB (q:=.c _) o p.k a N n d i fun g m l k=>q (f:=a') (p.l.same (l.le fun _=>rfl)) k rfl w
theorem KS (o:bj wn c) (h:f2 c.sc (.p x) S=af):f1 X Z v r c G (.p x) S:=by
 intro L Y s a Q E k w q;obtain⟨N,w⟩:=oJ (show aQ X Z (jD x (bE (.e [])) L fun L=>a a' L Y) from w);exact t7 (y' k fun p n b R=>(sB (q:=.e []) o p.k h N n b R fun g d l k=>q (f:=a') (p.l.same (l.le fun _=>rfl)) k rfl w)) rfl
theorem I' (U:hI wn X Z r) (V:nu wn X Z r) (o:bj wn c) {mb:List eo} (h:f2 c.sc (.l m M mb) S=af):f1 X Z i r c G (.l m M mb) S:=by
 intro L Y s j Q E k w q;obtain⟨h,b⟩:=bI h;obtain⟨d,g⟩:=bI h;refine wpAny_If (U o d k w fun p e w=> ?_);subst e;rename_i v _ _ _ _;have a (h:(eo.l m M mb).simple=af):(m.simple=af∧ku M=af)∧ku mb=true:=by
  have h:=h;exact⟨bI (bI h).1,(bI h).2⟩
 induction v with
 |true=>exact V o g p.k w fun l k f w=>q ((p.l.le fun h=>(a h).1.1).same (l.le fun h=>(a h).1.2)) k f w
 |false=>exact V o b p.k w fun l k f w=>q ((p.l.le fun h=>(a h).1.1).same (l.le fun h=>(a h).2)) k f w
end
end
section
variable{c:dq} {Y:ar}
theorem FB {E:List c6} {l:Nat} (h:b_ s m e=af) (a:vN m=ai):swapsWithSole [ol E k p] (bz m e) l b=dm false:=by
 induction m using bt.casesOn with
 |v=>exact aR h cp
 |j _=>exact nomatch a
 |h d=>
  show swapsWithSole _ (gZ d e) _ _=_;unfold gZ;cases(fE e).c with
  |some q=>rfl
  |none=>induction d using aj.casesOn<;>first|rfl|(induction(fE e).un<;>rfl)
 |_=>rfl
theorem Mh {E:List c6} (h:b_ s m e=af) (a:vN m=ai):swappedStores [ol E k p] (bz m e) b=dm none:=by
 induction m using bt.casesOn with
 |v=>exact aR h cp
 |j _=>exact nomatch a
 |h d=>
  show swappedStores _ (gZ d e) _=_;unfold gZ;cases(fE e).c with
  |some q=>rfl
  |none=>induction d using aj.casesOn<;>first|rfl|(induction(fE e).un<;>rfl)
 |_=>rfl
theorem OJ (R:b2 W X Z r) (o:bj W c) (h:f2 c.sc (kn x m) S=af):f1 X Z l r c G (kn x m) S:=by
 intro L Y s b Q E k w q;have h:=bI h;have a:=l' h.2;have h:=bI h.1;exact Assign_Tuple (R o h.2 k w fun p d w=>xn (e:=dz S) o p.k h.1 d w fun P w=>q (f:=a') (p.low.tr P).l P.k rfl w) (FB h.2 a) (Mh h.2 a)
theorem G7 {a:br}:ot (iZ [iu o a t] V pos) c.env=(do uy pos;let v←bO V c.env;uC (iu o a t) c.env v;dm h6):=by
 have h:pL V (ac (iu o a t)) pos.line c.env=dm false:=by cases V<;>rfl
 have e:ot (iZ [iu o a t] V pos) c.env=(do
   uy pos
   if←pL V (ac (iu o a t)) pos.line c.env then
    evalThenUse V c.env (uC (iu o a t) c.env)
    return h6
   let v←bO V c.env
   uC (iu o a t) c.env v
   dm h6):=rfl
 rw[e,h];rfl
theorem wU {a:br} (h:aH (aN aC c.w) c.A (bO V c.env) (fun v S=>aH (aN aC c.w) c.A (bO o c.env) (fun b d=>aH (aN aC c.w) c.A (uz b a v) (fun _=>Q h6) E d) E S) E s):
  aH (aN aC c.w) c.A (ot (iZ [iu o a t] V pos) c.env) Q E s:=by
 rw[G7];refine aG (fw (aG (d9 h (fun v S e=> ?_) fun _ _ x=>x)));rw[arm_assign_Attribute];exact aG (aG (eF (d9 e (fun b d f=>aG (fw (aG (eF (d9 f (fun _ i g=>EB (bo g)) fun _ _ x=>x))))) fun _ _ x=>x)))
theorem ve (w:aQ X Z (o6 d k)):∃j,d=an j∧aQ X Z (k j):=by
 cases d with
 |inst j=>exact⟨j,rfl,w⟩
 |_=>exact w.elim
theorem wJ (w:aQ X Z (mm j x v Y k)):∃st',nq j x v Y=ac st'∧aQ X Z (k st'):=by
 unfold mm at w;cases e:nq j x v Y with
 |none=>rw[e] at w;exact w.elim
 |some st'=>rw[e] at w;exact⟨st',rfl,w⟩
theorem OM (R:b2 W X Z r) (o:bj W c) (h:f2 c.sc (eV a x m) S=af):f1 X Z v r c G (eV a x m) S:=by
 intro L Y s n Q E k w q;obtain⟨b,i⟩:=bI h;refine wU (R o i k w fun p d w=>R o b p.k w fun P D w=> ?_);obtain⟨j,rfl,w⟩:=ve w;obtain⟨u,e,w⟩:=wJ w;obtain⟨A,rfl,t⟩:=D;exact y5 P.k t e (d.mono P.l.ld) fun g y l _ k=>q (f:=a') ((p.low.tr P).l.tr l) k rfl w
theorem Av (R:b2 W X Z r) (y:bj W c) (h:b_ c.sc a ea=af) {D:bp} {K:cR→au→ar→aT} {Q:Flow→ct→Prop} (p:bV ai c G g L Y s) (n:g D=ah) (B:s.heap.get? D=ac o) (C:cQ c.w g o pc.frz)
  (w:aQ X Z (r.e a L Y fun d L Y=>o6 d fun j=>mm j x (b1 pc) Y fun Y=>K a' L Y)) (q:∀{f i st' b F S},bT ai G b→aU c b i st' S→oB b f F→aQ X Z (K f i st')→Q F S):aH (aN aC c.w) c.A (bO (bz a ea) c.env) (fun v I=>aH (aN aC c.w) c.A (uz v (cW x) (am D)) (fun _=>Q h6) E I) E s:=by
 have M:=p.k.keep n B;have m:bT af g (dt g D (.a o)):=jX n;refine R y h M w fun P N w=> ?_;obtain⟨j,rfl,w⟩:=ve w;obtain⟨st',e,w⟩:=wJ w;obtain⟨A,rfl,t⟩:=N;have T:=P.l D (.a o) trivial hL;have U:=(P.k.ok _ _ T).elim fun β z=>z.2▸z.1;have V:=P.k.rm (p.k.gb n) T;have α:=r0 (m.low.tr P.l) n;have u:=tO T;refine GF V (u _ _ trivial t) e s_ U (((C.mono m.ld).mono P.l.ld).mono u) fun b S l _ k=>q (f:=a') ((p.l.tr α).tr l) k rfl w
theorem Qj (R:b2 W X Z r) (o:bj W c) (h:f2 c.sc (.k a x e) S=af):f1 X Z v r c G (.k a x e) S:=by
 intro L Y s j Q E k w q;obtain⟨b,d⟩:=bI h;exact wU (BL R o d k w fun p n g i w=>Av (pc:=.c _) R o b p n g i w fun l k f w=>q (l.le fun h=>nomatch h) k f w)
theorem PG (R:b2 W X Z r) (o:bj W c) (h:f2 c.sc (.n a x) S=af):f1 X Z v r c G (.n a x) S:=by
 intro L Y s e Q E k w q;exact wU (y' k fun p n b d=>Av (a:=a) (ea:=bA 0 (dz S)) (pc:=.e []) R o h p n b d w fun l k f w=>q (l.le fun h=>nomatch h) k f w)
theorem Aq (k:aU c G L Y s) {a b:aj} (e:(vR.B o a b).e=ac d) (D:a8 G a m) (n:a8 G b V) (h:∀{v S},aU c G L Y S→a8 G d v→Q v S):aH (aN aC c.w) c.A (ET o m V) Q E s:=by
 cases a with
 |int i=>
  obtain⟨t,rfl⟩:=D;have l {f:Int→Int→Option aj} (e:iL f (ae i) b=ac d) (g:∀j u,f i j=ac d→aH (aN aC c.w) c.A (ET o (aq i t) (aq j u)) Q E s):aH (aN aC c.w) c.A (ET o (aq i t) V) Q E s:=by
   obtain⟨I,j,p,rfl,e⟩:=tv e;cases p;obtain⟨u,rfl⟩:=n;exact g j u e
  have F {j:Int} (e:ac (ae j)=ac d):Q (aq j s.toks) {s with toks:=s.toks+1}:=h (k.tok _) (bD e▸⟨_,rfl⟩);cases o with
  |Add=>have e:eP b9 (ae i) b=ac d:=e;exact l e fun j u e=>Tg (F e)
  |Sub=>have e:eP fU (ae i) b=ac d:=e;exact l e fun j u e=>Tf (F e)
  |BitOr=>have e:eP iw (ae i) b=ac d:=e;exact l e fun j u e=>ior_int (F e)
  |_=>cases e
 |_=>cases e
theorem NS (R:b2 W X Z r) (y:bj W c) (h:f2 c.sc (.q a x o m) S=af):f1 X Z α r c G (.q a x o m) S:=by
 intro L Y s z Q E k w q;obtain⟨B,C⟩:=bI h;show aH _ _ (ot (um (iu (bz a (bA 0 (dz S))) (cW x) (dz S).pos) o (bz m (cL S)) S.pos) c.env) Q E s;rw[arm_exec_AugAssign_2];refine aG (fw (aG (R y B k w fun p d w=> ?_)));obtain⟨j,rfl,w⟩:=ve w;obtain⟨A,rfl,t⟩:=d;rename_i F i β γ _;have w:aQ X Z (match ie j x i with
  |some (.l v)=>r.e m F i fun b L Y=>e_ (.B o v b) fun d=>mm j x (.l d) Y fun Y=>z a' L Y
  |_=>.a):=w
 cases g:ie j x i with
 |none=>rw[g] at w;exact w.elim
 |some I=>
  rw[g] at w;cases I with
  |box _=>exact w.elim
  |l δ=>
   refine aG (eF (aG (fw (aG (AL p.k t g fun u T n=> ?_)))));obtain⟨_,n,D⟩:=n;cases n;refine aG (eF (R y C (p.k.tok T) w fun P M w=>aG (fw (wpAny_operate' ?_))));obtain⟨d,N,w⟩:=w;refine Aq P.k N (D.mono P.l.ld) M fun k U=> ?_;obtain⟨ε,e,w⟩:=wJ w;exact aG (fw (aG (eF (y5 k (P.l A (ga j) trivial t) e U fun ζ η V _ k=>aG (EB (bo (q (f:=a') ((p.low.tr P.low).l.tr V) k rfl w)))))))
theorem Pl (B:er W.1 mg mb) (R:b2 W X Z r) (V:∀{Z},nu W m Z r) (o:bj W c) (h:f2 c.sc (.f t n a) u=af)
  (A:∀{p f L Y},X.sub (.a v p) f L Y→p.c=ah→aQ m (·=(f,L,Y)) (kU r p.body p.t (gy p.b p.d) (p.L.map (·.1)) p.d p.L p.st dV)):f1 X Z v r c G (.f t n a) u:=by
 intro L Y s K Q E k w q;obtain⟨h,C⟩:=bI h;obtain⟨D,e⟩:=bI h;have B:er c.w mg mb:=by obtain rfl:=o.r;exact B
 refine wpAny_For (Ad (K:=fun d b L Y=>if b.isNone||ku a then l1 (.a v ⟨a,ah,t,b,d,L,Y⟩) K else .a) B R o e k w fun S w=> ?_) (fun x=>(hV e).fold _ x)
 rename_i d M β γ g I δ;obtain⟨N,w⟩:=f7 w;obtain⟨f,T,U,j,w⟩:=w;obtain⟨P,i,α⟩:=S.a;exact EV (b:=ku a) (z:=(f,T,U)) (fun{Z G}=>V o C) o D (fun z=>((dK ..).mp N).resolve_left fun y=>by clear S i j w;cases M<;>first|(cases z;done)|(cases y;done)) i (fun l k F=>q (S.p.l.tr l) k F w) S.p.k S.free α S.box (A j rfl)
theorem Pz (U:∀{Z},hI W x Z r) (V:∀{Z},nu W x Z r) (o:bj W c) (h:f2 c.sc (.m m b) S=af)
  (a:∀{p f L Y},X.sub (.a v p) f L Y→∀{m},p.c=ac m→aQ x (·=(f,L,Y)) (mn r m p.body (p.L.map (·.1)) dV pa p.L p.st)):f1 X Z v r c G (.m m b) S:=by
 intro L Y s n Q E k w q;obtain⟨d,e⟩:=bI h;obtain⟨f,g,i,j,w⟩:=w;exact wpAny_While (L3 (z:=(f,g,i)) (bb:=ku b) U o d (fun{Z G}=>V o e) (fun l k F=>q l k F w) k (a j rfl))
end
theorem Fz:∀(vs:List aV) (j:Nat),j+vs.length=L→(∀x k,F (x,k)=if(aM (n≤k)&&aM (k<L))=af then ah else ac x)→(vs.zipIdx j).filterMap F=vs.take (n-j):=by
 intro vs;induction vs with
 |nil=>
  intro j _ _;simp
 |cons v vs i=>
  intro j l a;rw[R0,List.filterMap_cons,a];have i:=i (j+1) (by rw[mY] at l;exact e8 (b5 (.c 1 (.a .b (.a .f .n1)) .g (.g 1 (.a (.a .b .n1) .f) .g)) rfl (a9 l)) (b5 (.c 1 .b (.a .f (.a .g .n1)) (.g 1 .b (.a (.a .f .n1) .g))) rfl (a9 (cB l)))) a;have b:j<L:=by rw[mY] at l;exact b5 (.c 1 (.a .b (.a .f .n1)) .g (.g 1 (.a .b .n1) .g)) rfl (a9 l)
  by_cases h:n≤j
  ·simp only[h,b,decide_true,Ef,if_true];rw[i,show n-(j+1)=0 by exact e8 (ux (Ey (j+1) (n)) (fun y=>b5 (.c 1 .b .f (.c 1 (.a .g (.a .f .n1)) .b (.g 1 .g .n0))) rfl h (a9 (fi y))) fun y=>dN (.c 1 .b .n0 (.g 1 .b .n0)) rfl (a9 (tV y))) (dN (.g 1 .n0 .b) rfl),show n-j=0 by exact e8 (ux (Ey (j) (n)) (fun y=>b5 (.c 1 .b .f (.c 1 (.a .g .f) .b (.g 1 .g .n0))) rfl h (a9 (fi y))) fun y=>dN (.c 1 .b .n0 (.g 1 .b .n0)) rfl (a9 (tV y))) (dN (.g 1 .n0 .b) rfl)];simp
  ·simp only[h,decide_false,ye,x0,if_false];rw[i,show n-j=(n-(j+1))+1 by exact e8 (b7 (.c 1 .b (.a .f (.a .g .n1)) (.c 1 (.a .j .g) .b (.g 1 .j (.a .f .n1)))) rfl (g3.mp (bv (n-(j+1)))) (a9 (fi (show j≤n from cD (.c 1 (.a .b .n1) .f (.g 1 .b .f)) rfl (f' h))))) (b7 (.c 1 .b (.a .f .g) (.c 1 (.a .j (.a .g .n1)) .b (.g 1 (.a .j .n1) .f))) rfl (g3.mp (bv (n-(j)))) (a9 (fi (f' h)))),List.take_succ_cons]
section
variable{c:dq} {Y:ar}
theorem Qa {a:bp} {m:Nat} (o:s.heap.get? a=ac (d5 vs m)) (l:s.heap.IsSliceOf sl (aq i t) dj dj) (p:0≤i) (hz:vs.length≤fR)
  (h:∀h' M,hC a s.heap h'→h'.get? a=ac (d5 (vs.take i.toNat) M)→Q () {s with heap:=h'}):aH (aN aC c.w) c.A (delItem (am a) (am sl)) Q E s:=by
 refine eA (id l) fun q d r e=> ?_;have g:s.TypeIs (am sl) "slice":=bd q d r;have T:s.TypeIs (am a) "list":=bd _ o rfl;refine Sl T (by decide) QX (pA QX T PySem.F.entry_list_delitem ((aG (aG (ua g slice_no_index ?_))):aH _ _ (T4 (am sl)>>=_) _ _ s) (PySem.F.args_list_delitem_2 _ _));simp only[Option.isNone_none,if_true];refine bo (aG (EJ g ?_));rw[aL (by decide)];rw[listSliceParts_eq];refine aG (aG (rx d e rfl (aG (En rE (ak (aL (show¬((rawPart ah==oj 0)=af) from cp)) (aG (rx d e rfl (aG (En (.int i t) (aG (rx d e rfl (aG (En rE (bo (aG (aG (wpAny_seqItems o rfl (bo (aG (yr (sliceIndices_raw (ac i) ah ah vs.toArray.size (fun h=>(by injection h))) ?_))))))))))))))))))));obtain⟨j,rfl⟩:=Ri p;have b:EL (ac (j:Int)) ah ah vs.toArray.size=(((hF j vs.length:Nat):Int),((vs.length:Nat):Int),1):=(kms_bounds ..).trans (by rw[rR,d2];rfl);refine ak b (aG (yv ?_));have n:∀F:aV×Nat→Option aV,(∀x k,F (x,k)=if(aM ((hF j vs.length:Nat)≤k)&&aM (k<vs.length))=af then ah else ac x)→Q () {s with heap:=s.heap.update a (ul fun X=>(X.toList.zipIdx.filterMap F).toArray)}:=by
  intro F u;obtain⟨M,v⟩:=tn (f:=fun X=>(X.toList.zipIdx.filterMap F).toArray) o (by
   have:=Fz vs 0 (e8 (dN (.g 1 (.a .n0 .b) .b) rfl) (dN (.g 1 .b (.a .n0 .b)) rfl)) u;rw[this,Et,←List.take_eq_take_min])
  exact h _ M (nT ..) v
 refine aG (wpAny_updateSeq o rfl ?_ (by refine ak d2 ?_;exact hz) ?_)
 ·refine aG (EK (bo (bd _ rfl (n _ fun x k=> ?_))))
  show(if(if(1:Int)>0 then(aM (((hF j vs.length:Nat):Int)≤(k:Int))&&aM ((k:Int)<((vs.length:Nat):Int))&&(((k:Int)-((hF j vs.length:Nat):Int))%1==0))
   else(aM (((vs.length:Nat):Int)<(k:Int))&&aM ((k:Int)≤((hF j vs.length:Nat):Int))&&((((hF j vs.length:Nat):Int)-(k:Int))%(-1)==0)))=af then ah else ac x)=_
  rw[aJ (show(1:Int)>0 by decide)];simp only[Int.emod_one,iX,n9,gq,g5]
 ·exact ak d2 (ao (List.length_filterMap_le _ _) (ak pu (re hz)))
theorem aU.slNow {a:bp} (k:aU c G L Y s) (t:G a=ac (bQ l x)) (p:bV bb c G g d m S) (h:gR x d=ac q):g a=ac (bQ l x)∧bG x d=ac (gX l q)∧∃o,S.heap.get? a=ac o∧cQ c.w g o q.frz:=by
 refine(np h).elim fun f e=>ay (p.k.peek e) fun b _ T=> ?_;have j:=p.h _ _ _ T;obtain⟨_,_,z,i,_⟩:=k.ok _ _ j;obtain⟨_,_,Z,I,_⟩:=k.ok _ _ t;rw[I] at i;obtain⟨rfl,_⟩:=kB (bD i);cases k.solo _ _ (bQ l x) trivial t j;exact fg T e ((p.k.slAt T h).2)
theorem Kb (h:i2 i n=ac j):j<n:=by
 unfold i2 at h;split at h
 ·obtain⟨a,e⟩:=dx h;injection e with e;subst e;exact(yi ‹0≤i›).mpr a
 ·obtain⟨a,e⟩:=dx h;injection e with e;subst e;exact(yi a).mpr (RW (RF (oa.mp ‹_›) n) (yj (EA _)))
theorem CI (C:bj w c) (k:aU c G L Y s) {a:bp} (e:gT q i d=ac I) (b:s.heap.get? a=ac o) (r:cQ c.w G o q.frz) (D:a8 G i V) (x:a8 G d v)
  (h:∀{h' tk p},hC a s.heap h'→h'.get? a=ac p→cQ c.w G p I.frz→Q () {s with heap:=h',toks:=tk}):aH (aN aC c.w) c.A (setItem (am a) V v) Q E s:=by
 induction q with
 |c N=>
  refine ay (mE e) fun n P e=> ?_;subst P;refine ay (dg.mp e) fun j A y=> ?_;subst y;obtain⟨t,rfl⟩:=D;refine cF r fun S m y R z=> ?_;subst y;refine iD (si A z) fun _ T U W=> ?_;have u:S.toArray.size=N.length:=by rw[d2,R.len]
  have F:∀k:Nat,k=j→Q () {s with heap:=s.heap.update a (ul (·.setIfInBounds k v))}:=by
   rintro k rfl;obtain⟨M,X⟩:=tn (f:=(·.setIfInBounds k v)) b (List.setIfInBounds_toArray ..);exact h (nT ..) X (es _ M rfl (R.set x k) (by rw[List.length_set];exact z))
  have Z:=Kb A;rcases W with⟨g,l⟩|⟨g,l,α⟩
  ·exact ki_setAt b g U (by rw[u];exact(Int.toNat_lt g).mp (l▸Z)) (F _ l)
  ·exact ki_setBack b g (by rw[u];exact l) T (F _ (by rw[u];exact α))
 |e ε=>
  refine(dx e).elim fun B e=> ?_;injection e with e;subst e;exact Ia C k b r B.1 D B.2 x fun h' t p β γ δ=>h β γ δ
theorem HM {l:Nat} (h:b_ s m e=af):pL (bz m e) (ac (pH t i p)) l E=dm false:=by
 induction m using bt.casesOn with
 |v=>exact aR h cp
 |h d=>
  show pL (gZ d e) _ _ _=_;unfold gZ;cases(fE e).c with
  |some q=>rfl
  |none=>induction d using aj.casesOn<;>first|rfl|(induction(fE e).un<;>rfl)
 |_=>rfl
theorem Ar (e:(ow Q j D).e=ac (d,a)):gT Q j D=ac a:=(dg.mp e).elim fun q h=>h.1.trans (aS (fun p=>ac p.2) h.2)
theorem E_ {K:cR→au→ar→aT} (w:aQ X Z (p5 y q L Y K)):∃l,jr y q L=ac l∧aQ X Z (K a' l Y):=by
 unfold p5 at w;cases h:jr y q L with
 |none=>rw[h] at w;exact w.elim
 |some l=>rw[h] at w;exact⟨l,rfl,w⟩
theorem J8 {K:cR→au→ar→aT} (w:aQ X Z (nD k y q L Y K)):∃s,gg k y (b1 q) Y=ac s∧aQ X Z (K a' L s):=by
 unfold nD at w;cases h:gg k y (b1 q) Y with
 |none=>rw[h] at w;exact w.elim
 |some s=>rw[h] at w;exact⟨s,rfl,w⟩
theorem Gf {K:cR→au→ar→aT} (w:aQ X Z (xc D j (g' y) L Y K)):∃q Q,gR y L=ac q∧gT q j D=ac Q∧aQ X Z (p5 y Q L Y K):=by
 have w:aQ X Z (match gR y L with|some c=>aT.c (ow c j D) fun _ c=>p5 y c L Y K|none=>.a):=w
 cases h:gR y L with
 |none=>rw[h] at w;exact w.elim
 |some q=>rw[h] at w;exact bK w fun d Q e w=>⟨q,Q,rfl,Ar e,w⟩
theorem HO {K:cR→au→ar→aT} (w:aQ X Z (xc D j (dI (da k y)) L Y K)):∃q Q,dW k y Y=ac q∧gT q j D=ac Q∧aQ X Z (nD k y Q L Y K):=by
 have w:aQ X Z (match dW k y Y with|some c=>aT.c (ow c j D) fun _ c=>nD k y c L Y K|none=>.a):=w
 cases h:dW k y Y with
 |none=>rw[h] at w;exact w.elim
 |some q=>rw[h] at w;exact bK w fun d Q e w=>⟨q,Q,rfl,Ar e,w⟩
theorem Ln (R:b2 W X Z r) (u:bj W c) (h:f2 c.sc (eW a i m) S=af):f1 X Z v r c G (eW a i m) S:=by
 intro L Y s ζ Q E k w q;have h:=bI h;have V:=h.2;have h:=bI h.1;refine wpAny_Assign_Subscript (R u V k w fun p d w=>lI R u h.1 p.k w fun{z _ _ _ _ _} x C w=>(f7 w).elim fun α w=>R u h.2 x.k w fun P D w=> ?_) (HM V);have l:bT (eW a i m).simple G _:=((p.l.le fun h=>(bI h).2).same (x.l.le fun h=>(bI (bI h).1).1)).same (P.l.le fun h=>(bI (bI h).1).2);have d:=(d.mono x.l.ld).mono P.l.ld;induction z with
 |slot y=>
  exact bK C fun A b e t=>cF (Gf w) fun β γ B n w=>ay (E_ w) fun η F w=>dQ (x.k.slNow t P B) fun T g z=>ay z fun o I M=>
   e▸CI u P.k n I M D d fun n N U=>q (f:=a') l ((xO g F).symm▸P.k.poke T g n N U) rfl w
 |sq δ=>
  induction δ using aj.casesOn with
  |box j y=>
   exact ay C.bx fun A e t=>cF (HO w) fun β γ B n w=>ay (J8 w) fun θ F w=>
    have T:=P.l A (cJ j y) (av (uL α rfl)) t
    (P.k.box T B).elim fun ε z=>ay z fun o I M=>e▸CI u P.k n I M D d fun n N U=>q (f:=a') l (P.k.pokeB T ε n N U (qA F)) rfl w
  |_=>exact w.elim
theorem zH (h:aH (aN aC c.w) c.A (bO o c.env) (fun v S=>aH (aN aC c.w) c.A (bO i c.env) (fun I a=>aH (aN aC c.w) c.A (delItem v I) (fun _=>Q h6) E a) E S) E s):
  aH (aN aC c.w) c.A (ot (yE [pH o i t] pos) c.env) Q E s:=by
 rw[arm_exec_Delete,arm_deleteEach_cons,arm_delete_Subscript,arm_deleteEach_nil];exact aG (fw (aG (aG (aG (d9 h (fun v S b=>(aG (eF (d9 b (fun I a d=>(aG (fw (aG (eF (d9 d (fun _ f e=>EB (bo (bo e))) fun _ _ x=>x)))))) fun _ _ x=>x)))) fun _ _ x=>x)))))
end
section
variable{Y:ar}
theorem FY (o:bj w c) (h:oN c.sc x=af) (p:iF G s.heap x v (c.pl x)) (q:Q v s):aH (aN aC c.w) c.A (loadName c.env (cc x)) Q E s:=by
 rcases(B1 h).imp xt id with(e|e)|e
 ·obtain⟨a,b⟩:=o.loc x e;rw[b] at p;obtain⟨_,_,m,n,e⟩:=p;exact wpAny_loadName_local o.l a n e q
 ·obtain⟨a,d,b,e⟩:=o.cell x e;rw[e] at p;exact wpAny_loadName_cell o.l a b p.2.2 q
 ·obtain⟨a,d,b,e⟩:=o.free x e;rw[e] at p;exact a.elim (fun a=>wpAny_loadName_cell o.l a b p.2.2 q) fun a=>Se o.l a b p.2.2 q (AG _ (uS p.1)).2
theorem Mr (R:b2 W X Z r) (t:bj W c) (h:f2 c.sc (.B x o m) S=af):f1 X Z α r c G (.B x o m) S:=by
 intro L Y s B Q E k w q;obtain⟨C,M⟩:=bI h;have N:oN c.sc x=true:=(dK ..).mpr (av C);have w:aQ X Z (match lu x L with
  |some (A,L)=>r.e m L Y fun b L Y=>e_ (.B o A b) fun d=>jD x (.l d) L fun L=>B a' L Y
  |none=>.a):=w
 have F {u:aj} {I:au} {g:bM} {v:aV} (p:bV af c G g I Y s) (P:iF G s.heap x v (c.pl x)) (D:a8 g u v) (w:aQ X Z (r.e m I Y fun b L Y=>e_ (.B o u b) fun d=>jD x (.l d) L fun L=>B a' L Y)):aH (aN aC c.w) c.A (ot (um (ey (cc x) (dz S).pos) o (bz m (cL S)) S.pos) c.env) Q E s:=by
  refine wpAny_AugAssign_Name (FY t N P (R t M p.k w fun z T w=>(ay w ?_)));clear w;intro d e w;refine Aq z.k e (D.mono z.l.ld) T fun k D=> ?_;obtain⟨n,w⟩:=oJ w;exact sr t k C n D fun β γ U i k=>q (f:=a') ((p.low.tr z).l.tr U) k rfl w
 unfold lu at w;induction j:bG x L with
 |none=>have w:=j▸w;exact w.elim
 |some V=>
  rw[j] at w;induction V with
  |a _=>exact w.elim
  |l u=>exact(k.fr x _ j).elim fun v y=>F (.of k) y.1 y.2 w
  |own δ=>exact k.own j fun ε g P p D=>F p P D w
theorem Qh (f:b→β) (l:List b):∀(j:Nat),(l.map f).eraseIdx j=(l.eraseIdx j).map f:=by
 induction l with
 |nil=>exact fun _=>rfl
 |cons a l i=>intro j;induction j using ir with
  |zero=>rfl
  |succ j=>exact aS (f a::·) (i j)
noncomputable def mO (X:List (iR×bp×aV)) (k:iR):List (iR×bp×aV):=X.filter fun x=>aM (x.1≠k)
theorem F5 (k:iR):∀{X:List (iR×bp×aV)},k∉X.map (·.1)→mO X k=X:=by
 intro X h;unfold mO;rw[DO];intro x a;rw[n6];rintro rfl;exact h (cr.mpr (bd x a rfl))
section
theorem FZ (k:iR):∀{X:List (iR×bp×aV)} {j:Nat} {p:bp×aV},(X.map (·.1)).Nodup→X[j]? =ac (k,p)→X.eraseIdx j=mO X k:=by
 intro X;induction X with
 |nil=>intro j p _ h;simp at h
 |cons x r i=>
  intro j p n h;rw[eE,gn] at n;induction j using ir with
  |zero=>
   simp only[List.getElem?_cons_zero,lN] at h;subst h;have:=F5 k n.1;unfold mO at this⊢;rw[List.eraseIdx_cons_zero,Dt (by simp),this]
  |succ j=>
   simp only[List.getElem?_cons_succ] at h;have m:k∈r.map (·.1):=cr.mpr (bd ((k,p)) (eR h) rfl);have a:¬x.1=k:=fun e=>n.1 (e▸m);have:=i n.2 h;unfold mO at this⊢;rw[List.eraseIdx_cons_succ,Ds (by simpa using a),this]
theorem L0 (k:iR) (h:(x.map (·.1)).Nodup):((mO x k).map (·.1)).Nodup:=
 QR (Ua _ mX) h
theorem Mj {a:bp} (u:(gS w).room A) (y:(gS w).is s.heap k a) (m:s.heap.DictOfH (gS w) d X) (g:(om X k).isSome=af)
  (r:∀e h',h'.DictOfH (gS w) d (mO X k)→hC d s.heap h'→Q (ac e) {s with heap:=h',toks:=s.toks+(gS w).draws k}) (z:X.length≤fR):
  aH (aN aC w) A (Dq d (am a)) Q E s:=by
 refine lf m fun o t v b c h f i n=> ?_;unfold Dq
 try with_reducible refine eF ?_
 refine aG ((gS w).pyHash u y (aG (wpAny_dictFind_heap u y b h f i n ?_ ?_)))
 ·intro B;rw[atKey_none_of_get B] at g;injection g
 ·refine fun j p q=>aG (t6 b h (ak (entry_at f j) (ak q ?_)))
  refine aG (wpAny_updateDictKeys (hz:=size_of_entries f▸z) b h (bo (r _ _ ⟨_,_,v+1,Rk _ b (Obj.isFreed_of_dict (Rw h _)),
   c.mapDictKeys _,Rw h _, ?_, ?_,L0 k n⟩ (nT ..))))
  ·refine ak (cB (FZ k n q)) ?_;obtain⟨l⟩:=t;simp only at f;simp only[QP];exact ak f (Qh _ _ _)
  ·exact fun x C=>(gS w).keeps (i x ((c_.mp C).1)) b h (nT ..)
theorem GW (k:iR) (d a:bp):
  MeetsIn aC w (Builtin.«dict.__delitem__» ⟨[am d,am a],[]⟩) (fun A R s=>(gS w).room A.in1∧∃x,(gS w).is s.heap k a∧s.heap.DictOfH (gS w) d x∧x.length≤fR∧(om x k).isSome=af∧
   ∀h',h'.DictOfH (gS w) d (mO x k)→hC d s.heap h'→R (jJ (.ret dj)) {s with heap:=h',toks:=s.toks+(gS w).draws k}):=
 .of_wp fun A R s z=>z.elim fun u Z=>Z.elim fun x b=>b.elim fun y c=>c.elim fun m f=>f.elim fun g i=>i.elim fun j h=>by
  refine aG (aG (RX m.typeIs ?_));refine bo (?_:aH _ _ (Dq d (am a)>>=_) _ _ s);exact aG (Mj u y m j (fun e h' l n=>(aG (EK (bo (bd dj rfl (h h' l n)))))) g)
end
theorem IT (u:bj w c) (k:aU c G L Y s) {A:bp} (j:s.heap.get? A=ac o) (r:cQ c.w G o (.e g)) (e:(ja key&&cT key g&&dA key g)=af) (d:a8 G key vk)
  (q:∀{h' t f},hC A s.heap h'→h'.get? A=ac f→cQ c.w G f (.e (hR key g))→Q () {s with heap:=h',toks:=t}):aH (aN aC c.w) c.A (delItem (am A) vk) Q E s:=by
 refine(bI e).elim fun e v=>(bI e).elim fun y z=> ?_;refine nz k j r z d (fun i t l e _ _ _=>by subst e;injection y) fun x b l B C h m i=> ?_;subst B C;have T:=(tt k j r).1;have n:=m;refine lf n ?_;clear n;intro _ _ _ _ _ _ _ _ n;refine Sl T (by decide) RZ (rt RZ T F.entry_dict_delitem (F.args_dict_delitem_2 _ _) (GW x A b) ?_);refine⟨u.rm,l,i,m,by rw[h.len];exact r.1, ?_,fun h' D I=> ?_⟩
 ·exact kC.has ma x h▸v
 ·exact lf D fun f M p N P R S _ U=>q I N ⟨ao (Is ..) r.1,aI (bd _ (h.del ma n) (fun h a e i=>sg f M p e P R S i U))⟩
theorem LW (R:b2 W X Z r) (u:bj W c) (h:f2 c.sc (l0 a i) U=af):f1 X Z v r c G (l0 a i) U:=by
 intro L Y s B Q E k w q;obtain⟨α,β⟩:=bI h;have w:aQ X Z (f0 r a L Y fun c L Y=>match c with
  |.sq (.box q x)=>if i.simple then r.e i L Y fun j L Y=>match dW q x Y with
    |some (.e m)=>aT.c (ou j m) fun _ c=>match gg q x (b1 c) Y with
     |some Y=>B a' L Y
     |none=>.a
    |_=>.a
   else .a
  |_=>.a):=w
 refine zH (lI R u α k w fun p C w=> ?_);rename_i z ν ξ g V ο;induction z with
 |slot y=>exact w.elim
 |sq d=>
  induction d using aj.casesOn with
  |box n y=>
   refine ay C.bx fun A γ t=> ?_;subst γ;obtain⟨F,w⟩:=f7 w;refine R u β p.k w fun P D w=> ?_;rename_i j l S π ρ σ;have T:=P.l A (cJ n y) (av F) t;have w:aQ X Z (match dW n y S with
    |some (.e m)=>aT.c (ou j m) fun _ c=>match gg n y (b1 c) S with
     |some Y=>B a' l Y
     |none=>.a
    |_=>.a):=w
   induction I:dW n y S with
   |none=>have w:=I▸w;exact w.elim
   |some δ=>
    rw[I] at w;induction δ with
    |c _=>exact w.elim
    |e m=>
     refine bK w ?_;clear w;intro _ τ ε w;obtain⟨ζ,M⟩:=dx (show(if ja j&&cT j m&&dA j m then ac (a4,b0.e (hR j m)) else ah)=ac _ from ε)
     injection M with M;injection M with a b;subst a;subst b;obtain⟨η,o,θ,ι⟩:=P.k.box T I;have w:aQ X Z (match gg n y (b1 (.e (hR j m))) S with|some Y=>B a' l Y|none=>.a):=w
     induction N:gg n y (b1 (.e (hR j m))) S with
     |none=>have w:=N▸w;exact w.elim
     |some υ=>
      rw[N] at w;exact IT u P.k θ ι ζ D fun F κ μ=>q (f:=a') ((p.l.le fun h=>(bI h).1).same (P.l.le fun h=>(bI h).2)) (P.k.pokeB (q:=.e _) T η F κ μ (qA N)) rfl w
  |_=>exact w.elim
theorem N9 (R:b2 W X Z r) (β:bj W c) (h:f2 c.sc (.u a i) B=af):f1 X Z v r c G (.u a i) B:=by
 intro L Y s F Q E k w q;obtain⟨ζ,η⟩:=bI h;have w:aQ X Z (f0 r a L Y fun c L Y=>match c with
  |.sq (.box q x)=>if i.simple then r.e i L Y fun j L Y=>match dW q x Y with
    |some (.c d)=>aT.c (rH j d) fun _ c=>match gg q x (b1 c) Y with
     |some Y=>F a' L Y
     |none=>.a
    |_=>.a
   else .a
  |_=>.a):=w
 refine zH (lI R β ζ k w fun p C w=> ?_);rename_i z ρ σ g V τ;induction z with
 |slot y=>exact w.elim
 |sq D=>
  induction D using aj.casesOn with
  |box u y=>
   refine ay C.bx fun A θ t=> ?_;subst θ;obtain⟨I,w⟩:=f7 w;refine wpAny_Slice ?_;rw[show th (ac i) (bA 0 (bA 1 (dz B)))=ac (bz i (bA 0 (bA 1 (dz B)))) from rfl,evalPart_some,evalPart_none];refine R β η p.k w fun P ι w=>bo (bo ?_);rename_i j l S υ φ κ;have T:=P.l A (cJ u y) (av I) t;have w:aQ X Z (match dW u y S with
    |some (.c d)=>aT.c (rH j d) fun _ c=>match gg u y (b1 c) S with
     |some Y=>F a' l Y
     |none=>.a
    |_=>.a):=w
   induction N:dW u y S with
   |none=>have w:=N▸w;exact w.elim
   |some μ=>
    rw[N] at w;induction μ with
    |e _=>exact w.elim
    |c d=>
     refine bK w ?_;clear w;intro _ χ γ w;induction j using aj.casesOn with
     |int n=>
      obtain⟨ν,U⟩:=dx (show(if 0≤n then ac (a4,b0.c (d.take n.toNat)) else ah)=ac _ from γ)
      injection U with U;injection U with a b;subst a;subst b;obtain⟨tk,rfl⟩:=ι;have δ:=(P.push {cls:=bn "slice",data:=m8 #[aq n tk,dj,dj]} (tk:=κ.toks)).k;obtain⟨ξ,o,ο,ψ,m,rfl,ε,z⟩:=δ.box T N;have w:aQ X Z (match gg u y (b1 (.c (d.take n.toNat))) S with|some Y=>F a' l Y|none=>.a):=w
      induction α:gg u y (b1 (.c (d.take n.toNat))) S with
      |none=>have w:=α▸w;exact w.elim
      |some ω=>
       rw[α] at w;refine Qa ο (Ti ..) ν (by rw[ε.len];exact z) fun a₀ M I π=> ?_;exact q (f:=a') ((p.l.tr P.l).le fun h=>(by injection h)) (δ.pokeB (q:=.c _) T ξ I π (es _ M rfl (ε.take _) (by rw[nX];exact ao (nY ..) z)) (qA α)) rfl w
     |_=>injection γ
  |_=>exact w.elim
theorem Lm (B:er W.1 mg mb) (R:b2 W X Z r) (u:bj W c) (h:f2 c.sc (.w x a) S=af):f1 X Z v r c G (.w x a) S:=by
 intro L Y s κ Q E k w q;obtain⟨N,i⟩:=bI h;obtain⟨g,i⟩:=bI (show(mq c.sc 18&&eM c.sc [a] (eu (cL S)).tail)=af from i);have i:=(bI i).1;have B:er c.w mg mb:=by obtain rfl:=u.r;exact B
 refine t7 (uO (fv:=bn "dict") B u k (bI g).1 (by decide) (aI ⟨_,rfl⟩) i (R u i k w fun p d w=> ?_)) rfl;rename_i D μ ν ξ V ο;induction D using aj.casesOn with
 |e P=>
  have w:=w;refine ay w ?_;clear w;intro b C w;obtain⟨T,U⟩:=f7 w;subst T;obtain⟨n,α⟩:=oJ U;refine bK d fun π o y t=> ?_;subst y;refine eA (p.k.ok _ _ t) fun ρ β y F=> ?_;subst y;refine ay (zN p.k β F (cH.mp (bD C))) fun A M γ=> ?_;refine kt_call_dict (p.k.nmod fun o j=>by have j:=t▸j;cases j) γ (by refine ak M.len ?_;exact F.1) fun h' m δ=> ?_;have ε:=fun b I C=>δ.extBut b I (hZ (ki C)) (iq _ C);exact hQ (id m) fun ζ η θ ι z=>sB (q:=.e P) u (p.k.kp (h':=h') fun b I _=>ε b I) N n p.k.B ι ⟨F.1,av (bd A M (fun h a j=>iT ζ η θ j z))⟩ fun σ τ l k=>q (f:=a') (p.l.low.tr l) k rfl α
 |_=>exact w.elim
end
section
theorem H9:∃b,pL (pI e gs s c) (ac (ey y p')) l E=dm b:=⟨_,rfl⟩
theorem ML (B:er W.1 mg mb) (R:b2 W X Z r) (ι:∀{Z},b2 W κ Z r) (U:∀{Z},hI W κ Z r) (μ:qf X κ τ r) (P:bj W c) (h:f2 c.sc (.g x a t i F) S=af):f1 X Z τ r c G (.g x a t i F) S:=by
 intro L Y s υ Q E k w q;refine(bI h).elim fun φ ν=> ?_;have B:er c.w mg mb:=by obtain rfl:=P.r;exact B
 have ξ {d:List aj} {D:bp} {C:bp} {V:au} {e:ar} {j:bM} {y:ct} {u:List aV} {n:Nat} {ο:Unit→ct→Prop} (p:bV ai c G j V e y) (N:j D=ah) (A:y.heap.get? D=ac (d5 u n)) (v:dw j d u) (z:d.length≤b4) (w:aQ X Z (jD x (bE (.c d)) V fun L=>υ a' L e))
   (g:∀{I δ α},bT ai j I→aU c I δ e α→(∀{π},aU c I δ e π→Q h6 π)→ο () α):aH (aN aC c.w) c.A (yC c.env (cc x) (am D)) ο E y:=by
  exact(oJ w).elim fun χ w=>sB (q:=.c d) P p.k φ χ N A (es _ _ rfl v (ka z)) fun I α l k=>g l.low k fun ψ=>q (f:=a') (p.l.tr l) ψ rfl w
 obtain⟨b,ρ⟩:=H9 (gs:=[⟨mi t (bA 1 (cL S)),bz i (bA 2 (cL S)),dJ F ((eu (cL S)).drop 3),0⟩]) (p':=(dz S).pos);have w:=w;refine(?_:aH _ _ (ot (iZ [ey (cc x) (dz S).pos] (pI (bz a (bA 0 (cL S))) [⟨mi t (bA 1 (cL S)),bz i (bA 2 (cL S)),dJ F ((eu (cL S)).drop 3),0⟩] (mG (cL S)) (cL S).pos) S.pos) c.env) Q E s);induction b with
 |true=>
  refine ak (exec_Assign_Name_used _ _ _ _ ρ) (aG (fw (aG (aG (wM B R ι U P μ ν k w fun{d D C V e j y u n} p N T ε A v z w=>(D' (ξ (C:=C) p N A v z w fun{I δ α} l β g=> ?_)))))));have σ:=l C eH trivial T;obtain⟨o,ζ,m,η⟩:=β.ok _ _ σ;exact⟨m,η _ _ ζ,fun ω M θ γ=>bo (bo (g (β.nsC σ ε θ γ)))⟩
 |false=>
  refine t7 ?_ ρ;rw[eval_ListComp];refine wM B R ι U P μ ν k w fun{d D C V e j y u n} p N T ε A v z w=> ?_;obtain⟨o,ζ,m,η⟩:=p.k.ok _ _ T;refine bd m (η _ _ ζ) (fun ω M θ γ=> ?_);exact ξ (C:=C) ⟨p.l,p.h,(p.k.nsC T ε θ γ)⟩ N ((γ.2 _ (by rintro rfl;rw[N] at T;injection T)).trans A) v z w fun l β g=>g β
structure EZ (X x:dS) (l:Nat) (r:gE):Prop where
 c:qf X x l r
 f:∀{p f L Y},X.sub (.a l p) f L Y→p.c=ah→aQ x (·=(f,L,Y)) (kU r p.body p.t (gy p.b p.d) (p.L.map (·.1)) p.d p.L p.st dV)
 w:∀{p f L Y},X.sub (.a l p) f L Y→∀{m},p.c=ac m→aQ x (·=(f,L,Y)) (mn r m p.body (p.L.map (·.1)) dV pa p.L p.st)
theorem LN (B:er W.1 mg mb) (R:b2 W X Z r) (U:hI W X Z r) (V:nu W X Z r) (P:∀{Z},b2 W D Z r) (M:∀{Z},hI W D Z r) (N:∀{Z},nu W D Z r) (E:EZ X D L r) (z:bj W c) (h:f2 c.sc m s=af):f1 X Z L r c G m s:=by
 induction m using eo.casesOn with
 |v=>exact fun C A Q=>A.elim
 |d m=>exact H2 R z h
 |h m=>exact Jp R z h
 |set x m=>exact MF R z h
 |j x e=>exact Jm R z h
 |p x=>exact KS z h
 |g x a t I F=>exact ML B R P M E.c z h
 |w x a=>exact Lm B R z h
 |names T m=>exact OJ R z h
 |attr a x m=>exact OM R z h
 |k a x e=>exact Qj R z h
 |n a x=>exact PG R z h
 |sub a i m=>exact Ln R z h
 |B x S m=>exact Mr R z h
 |q a x S m=>exact NS R z h
 |f t I b=>exact Pl B R N z h E.f
 |m c b=>exact Pz M N z h E.w
 |l c a b=>exact I' U V z h
 |del a i=>exact LW R z h
 |u a i=>exact N9 R z h
 |y=>exact fun C A Q=>aG (fw (bo (Q (f:=a') .f C rfl A)))
 |o=>exact fun C A Q=>aG (fw (bo (Q (f:=.o) .f C rfl A)))
 |cont=>exact fun C A Q=>aG (fw (bo (Q (f:=iz) .f C rfl A)))
theorem PQ (I:∀{c G m S},bj W c→f2 c.sc m S=af→f1 X Z j r c G m S) (R:gE) (n:R.ss=Az j r):nu W X Z R:=by
 intro c M S G p a;rewrite [n];induction M generalizing S G with
 |nil=>intro L Y s t Q E k w q;exact Eh (q (f:=a') .f k rfl w)
 |cons m M i=>
  intro L Y s t Q E k w q;obtain⟨u,x⟩:=bI a;have e (a:ku (m::M)=af):m.simple=af∧ku M=true:=bI a;refine wpAny_execs_cons (I p u k w fun l k F w=> ?_);rename_i f A B g C N;have b:=l.le (b':=ku (m::M)) fun a=>(e a).1;induction f with
  |next=>subst F;exact i x k w fun z k F w=>q (b.same (z.le fun a=>(e a).2)) k F w
  |o=>subst F;exact q (f:=.o) b k rfl w
  |cont=>subst F;exact q (f:=iz) b k rfl w
  |h d=>refine ay F fun v y D=> ?_;subst y;exact q (f:=.h d) b k (bd v rfl D) w
end
theorem vV {Y:ar}:(dy T a M).sub s f L Y→aQ (dy T a s.b) (·=(f,L,Y)) (qX T s):=by
 exact M.rec EI fun M i=>fun h=>h.elim i fun z=>z.1▸z.2
theorem Ox (h:p.c=ah):qX T (.a k p)=kU (e6 T k) p.body p.t (gy p.b p.d) (p.L.map (·.1)) p.d p.L p.st dV:=by obtain⟨b,c,t,x,d,L,s⟩:=p;subst h;rfl
theorem GN (h:p.c=ac m):qX T (.a k p)=mn (e6 T k) m p.body (p.L.map (·.1)) dV pa p.L p.st:=by obtain⟨b,c,t,x,d,L,s⟩:=p;subst h;rfl
theorem yP:EZ (dy T a M) (dy T a l) l (e6 T l) where
 c:=fun h=>vV h
 f:=fun h e=>by have:=vV h;exact Ox e▸this
 w:=fun{p F L Y} h {m} e=>by have:=vV h;exact GN e▸this
structure Td (w:bZ×Nat) (X:dS) (r:gE):Prop where
 e:∀{Z},b2 w X Z r
 t:∀{Z},hI w X Z r
 s:∀{Z},nu w X Z r
theorem P6 (B:er W.1 mg mb) (F:iG W.1 W.2 b) (m:Nat):∀M,m≤M→Td W (dy T b M) (e6 T m):=by
 induction m using Nat.strongRecOn with
 |ind m i=>
  intro M d;induction m using ir with
  |zero=>exact⟨fun{Z c m e G} _ _ {L Y s f Q E} k w q=>w.elim,fun{Z c m e G} _ _ {L Y s f Q E} k w q=>w.elim,fun{Z c m e G} _ _ {L Y s f Q E} k w q=>w.elim⟩
  |succ m=>
   have h:=i m (lO m) M (kg d);have a:=i m (lO m) m (bv m);have F:iG W.1 W.2 (dy T b M).call:=by rw[A8];exact F
   refine⟨fun{Z}=>Jk B F h.e h.t a.e a.t yP.c _ rfl,fun{Z}=>MP h.e h.t ?_ _ rfl,fun{Z}=>PQ (fun o g=>LN B h.e h.t h.s a.e a.t a.s yP o g) _ rfl⟩;induction m using ir with
   |zero=>exact av fun _ _ _ _=>rfl
   |succ m=>exact aI (iT T m (e6 T m) ((i m (px (lO m)) M (kg (kg d))).e) rfl)
noncomputable def It (o:cj):FuncData:=match o.data with
 |.func f=>f
 |_=>fy
noncomputable def d7 (P:bY) (g:Nat):FuncData:=(((jb.lookup g).bind fun f=>(cO P).get? f.1).map It).getD fy
noncomputable def AT (fd:rA):List PySem.Stmt:=match fd.body with
 |.stmts b=>b
 |_=>[]
noncomputable def ti (v:aV):Addr:=match v with
 |.ref a=>a
 |_=>0
noncomputable def MC (v:aV):Tok:=match v with
 |.str _ t=>t
 |_=>0
noncomputable def Nx (o:cj):Array Value:=match o.data with
 |.fields v=>v
 |_=> #[]
noncomputable def MM (o:cj):List Value:=match o.data with
 |.seq x _=>x.toList
 |_=>[]
noncomputable def uU (P:bY) (v:aV):Array Value:=(((cO P).get? (ti v)).map Nx).getD #[]
noncomputable def vH (P:bY) (a:bp):List Value:=(((cO P).get? a).map MM).getD []
noncomputable def Ja (o:cj):Nat:=match o.data with
 |.seq _ n=>n
 |_=>0
noncomputable def GC (P:bY) (a:bp):Nat:=(((cO P).get? a).map Ja).getD 0
noncomputable def qR (v:aV):Option aj:=match v with
 |.int i _=>ac (ae i)
 |.str x _=>ac (bP x)
 |.ref a=>kI.lookup a
 |_=>ah
noncomputable def wC {b:Type} (h:fT) (t:h8 b):h8 b:=match t with
 |.load a p k=>(h.get? a).elim (.load a p k) k
 |t=>t
theorem JG {a β:Type} {l:List (Nat×a)} {f g:Nat→a→β} (h:(l.map fun p=>f p.1 p.2)=l.map fun p=>g p.1 p.2) {x:Nat} {q:a} (m:l.lookup x=ac q):f x q=g x q:=jH.mp h _ (hW m)
noncomputable def y8 (P:bY) (g:Nat):List Value:=vH P (ti (d7 P g).defaults)
noncomputable abbrev rO (q:i5):List Str:=q.params.map cc
noncomputable abbrev nj (u:Nat→aV) (n:Nat):List Value:=(cv n).map u
noncomputable def B0 (N:List (br×lV)) (x:br):Nat:=((cellsFrom 0 N []).lookup x).getD 0
noncomputable def xi (E:od) (b:List (br×aV)) (y:Nat):Option Value:=match E.cells.lookup (cc y) with
 |some _=>bindC E.kindOf b (fun _=>ah) (cc y)
 |none=>bindL E.kindOf b (fun _=>ah) (cc y)
noncomputable def wN (L:Nat) (F:rA) (x:br):Option Addr:=(cellsFrom (L+1) F.scope.names []).lookup x
noncomputable def FV (L:Nat) (F:rA) (y:Nat):Bool:=Nat.blt y fW.length&&(aM (F.scope.names.lookup (cc y)=ac g6)||(aM (F.scope.names.lookup (cc y)=ac gu)&&(wN L F (cc y)).isSome))
noncomputable def tx (P:bY) (u:Nat→aV) (q:i5) (g k:Nat):h8 (List (br×aV)):=wC (cO P) (bindArgs (d7 P g) ⟨nj u (q.params.length-k),[]⟩)
noncomputable abbrev xu (P:bY) (L a:Nat) (u:Nat→aV) (g:Nat) (q:i5):=((jb.lookup g).bind fun f=>((cO P).get? f.1).map (·.data),
  (d7 P g).body,Bx (d7 P g).scope q.body (AT (d7 P g)),vj q.params,(d7 P g).scope.kind,(d7 P g).scope.isCoroutine,(d7 P g).scope.isGenerator,(d7 P g).globals,(d7 P g).closure,(d7 P g).builtins,(d7 P g).code,((cO P).get? (ti (d7 P g).code)).map (·.data),(uU P (d7 P g).code)[1]?,
  (y8 P g).map qR,fx q.dflts.length 1,tx P u q g 0,tx P u q g q.dflts.length,
  (d7 P g).scope.names.map fun z=>(aM (z.2=d'),wN L (d7 P g) z.1),q.params.all (FV L (d7 P g)),q.params.map (xi (pM (d7 P g) L a) ((rO q).zip (nj u q.params.length))))
noncomputable abbrev wL (P:bY) (L a:Nat) (u:Nat→aV) (g:Nat) (q:i5):=(ac (pP (d7 P g)),EN (BF q.body (AT (d7 P g))),af,af,k4,ai,ai,n_,([]:List (br×bp)),ry,am (ti (d7 P g).code),ac (m8 (uU P (d7 P g).code)),ac (ba (d7 P g).qualname (MC ((uU P (d7 P g).code)[1]?.getD dj))),
  q.dflts.map ac,af,(dm ((rO q).zip (nj u q.params.length)):h8 (List (br×aV))),(dm ((rO q).zip (nj u (q.params.length-q.dflts.length)++y8 P g)):h8 (List (br×aV))),
  (d7 P g).scope.names.map fun z=>(ai,if z.2=gu then ac (L+1+B0 (d7 P g).scope.names z.1) else ah),af,(cv q.params.length).map fun i=>ac (u i))
theorem G6 (P:bY) (L a:Nat) (u:Nat→aV):(v8.map fun p=>xu P L a u p.1 p.2)=v8.map fun p=>wL P L a u p.1 p.2:=by kernel_rfl
theorem PK (f:∀b o,c.get? b=ac o→s.heap.get? b=ac o) (e:wC c t=t') (h:aH M A t' Q E s):aH M A t Q E s:=by
 subst e;induction t using Sem.casesOn with
 |load a p k=>
  have h:aH M A ((c.get? a).elim (.load a p k) k) Q E s:=h;induction d:c.get? a with
  |none=>rw[d] at h;exact h
  |some o=>rw[d] at h;exact aG (wpAny_loadPart (f _ _ d) h)
 |_=>exact h
theorem CD {us:List aV}:∀{k},k≤us.length→nj (fun i=>us.getD i dj) k=us.take k:=by
 intro k;induction k with
 |zero=>intro _;rfl
 |succ k I=>intro h;rw[nj,x_,cm,RS,cS h,List.map_singleton,List.getD,cS h];exact aS (·++_) (I (gJ h))
theorem G9 {l:List e} {m:List β} (h:l.map f=m.map g) {i:Nat} (c:l[i]? =ac a) (d:m[i]? =ac b):f a=g b:=by
 have h:=aS (·[i]?) h;rw[dX,dX,c,d] at h;exact bD h
noncomputable def k_ (e:od) (x:Nat):xw:=match e.cells.lookup (cc x) with
 |some a=>gQ a
 |none=>hG e.locals
open Classical in
noncomputable def qh (e:od) (a:bp):Option fl:=if a=e.locals then ac eH else if∃y,e.cells.lookup y=ac a then ac gP else ah
noncomputable def ng (e:od) (G:bM):bM:=fun a=>(G a).or (qh e a)
section
theorem Cv (e:qh E a=ac t):(a=E.locals∧t=eH)∨((∃y,E.cells.lookup y=ac a)∧t=gP):=by
 unfold qh at e;by_cases h:a=E.locals
 ·rw[aJ h] at e;exact av ⟨h,(bD e).symm⟩
 ·rw[aL h] at e;by_cases b:∃y,E.cells.lookup y=ac a
  ·rw[aJ b] at e;exact aI ⟨b,(bD e).symm⟩
  ·rw[aL b] at e;exact(by injection e)
theorem r2 (e:G a=ac t):ng E G a=ac t:=aS (yp · _) e
end
section
variable{Y:ar}
theorem Ly (k:mP c.w c.a G F Y s) (x:InCallC s c.env.locals (bindL c.env.kindOf B fun _=>ah) c.env.cells (bindC c.env.kindOf B fun _=>ah) r) (w:∀y,c.pl y=k_ c.env y)
  (C:∀y sl,bG y F=ac sl→y<fW.length∧∃v,jw G y v sl∧xi c.env B y=ac v):bT af G (ng c.env G)∧aU c (ng c.env G) F Y r:=by
 have y:=x.toInCall;have j {a:bp} (h:c.env.locals≤a) {t:fl} (e:qh c.env a=ac t):ng c.env G a=ac t:=by
  refine uv (b:=(ah:Option fl).or (qh c.env a)) (aS (yp · _) (a₁:=G a) ?_) e;induction D:G a with
  |none=>rfl
  |some t=>exact(k.ok a t D).elim fun o d=>aR (ki d.1) (Nat.not_lt.mpr (ao y.fresh h))
 have A {y:br} {a:bp} (h:c.env.cells.lookup y=ac a):c.env.locals<a:=x.above y a (hW h);have i {y:br} {a:bp} (h:c.env.cells.lookup y=ac a):ng c.env G a=ac gP:=j (gJ (A h)) ((aL (lP (A h))).trans (aJ ⟨y,h⟩));have I:=j (bv _) (aJ rfl);have l:bT af G (ng c.env G):=fun a t _ e=>r2 e;have p (z:Nat):(∃a,c.env.cells.lookup (cc z)=ac a∧c.pl z=gQ a)∨(c.env.cells.lookup (cc z)=ah∧c.pl z=hG c.env.locals):=by
  rw[w];unfold k_;cases c.env.cells.lookup (cc z) with
  |some a=>exact av ⟨a,rfl,rfl⟩
  |none=>exact aI ⟨rfl,rfl⟩
 refine⟨l, ?_,fun a t e=>(Dx.mp e).elim (fun g=>(k.ok a t g).imp fun o z=>⟨y.keep a o z.1,z.2.view l.ld (.f fun _ _ _ h=>r2 h)⟩) fun g=>(Cv g.2).elim (fun h=> ?_) fun h=> ?_,
  fun a b t S e f=> ?_,fun a t u e=>r2 (k.base a t u e),fun z=> ?_,fun z sl e=>(C z sl e).elim fun L h=>h.imp fun v h=>⟨⟨L, ?_⟩,h.1.mono l.ls fun b _ h=>r2 h⟩⟩
 ·exact oy k.same fun h R e=>bK x.done fun d T E _=>oZ d T (E.trans (by rw[e]))
 ·rw[h.1,h.2];exact hQ y.ns fun o M P Q z=>⟨o,Q,_,fun h a e=>⟨o,M,P,e,z⟩⟩
 ·exact ak h.2 (h.1.elim fun n h=>(x.cell n a h).imp fun o z=>⟨z.1,_,z.2⟩)
 ·have N {a t} (S:o0 t) (e:ng c.env G a=ac t):G a=ac t:=(Dx.mp e).elim id fun g=>by rcases Cv g.2 with⟨_,rfl⟩|⟨_,rfl⟩<;>exact S.elim
  exact k.solo a b t S (N S e) (N S f)
 ·rcases p z with⟨a,h,q⟩|⟨_,q⟩<;>refine ak q ?_
  ·exact i h
  ·exact I
 ·have m:=h.2;unfold xi at m;rcases p z with⟨a,h,q⟩|⟨h,q⟩<;>refine ak q ?_<;>rw[h] at m
  ·exact⟨i h,m▸x.cell _ a h⟩
  ·exact⟨I,_,y.ns,m⟩
end
section
variable{ad:bp}
noncomputable abbrev zT (fd:rA) (w:bZ) (s:ct) (A:pO) (n:Nat) (L ad:bp):dq:=⟨w,s,k_ (pM fd L ad),fd.scope,pM fd L ad,A.deeper (pM fd L ad),n⟩
theorem LC (h:e.cells.lookup (cc x)=ah):k_ e x=hG e.locals:=by unfold k_;refine ak h ?_;rfl
theorem K1 (h:e.cells.lookup (cc x)=ac a):k_ e x=gQ a:=by unfold k_;refine ak h ?_;rfl
theorem y7 (h:k_ e x=gQ a):e.cells.lookup (cc x)=ac a:=by
 unfold k_ at h;induction e:e.cells.lookup (cc x) with
 |none=>rw[e] at h;exact(Bf h).elim
 |some b=>rw[e] at h;injection h with h;exact aS _ h
theorem G4 {cs:List (br×bp)} (p:cs.Pairwise fun a b=>a.2≠b.2) (d:(x,c)∈cs) (f:(y,c)∈cs):x=y:=by
 induction p with
 |nil=>exact nomatch d
 |cons h _ i=>exact(eS.mp d).elim (fun E=>(eS.mp f).elim (fun e=>aS (·.1) (E.trans e.symm)) fun e=>aR (aS (·.2) E.symm) (h _ e)) fun d=>(eS.mp f).elim (fun e=>aR (aS (·.2) e.symm) (h _ d)) (i d)
theorem Hr (i:F.scope.kind=k4) (o:F.globals=n_) (q:F.builtins=ry)
  (N:(F.scope.names.map fun z=>(aM (z.2=d'),wN L F z.1))=F.scope.names.map fun z=>(ai,if z.2=gu then ac (L+1+B0 F.scope.names z.1) else ah))
  (ro:o4 (n+1) A) (x:InCallC s (pM F L ad).locals m (pM F L ad).cells c S):bj (w,n) (zT F w D A n L ad):=
 have e {x k} (h:fm F.scope x=ac k):=jH.mp N _ (hW (lq h))
 ⟨rfl,i,o,q,fun x h=>⟨lq h,LC (aS yz (e h))⟩,fun x h=>⟨lq h,_,aS yz (e h),K1 (aS yz (e h))⟩,fun x h=>(nomatch aS yA (e h)),fun y h=>h,
  fun X y a t C h g=>wg t C (G4 x.apart (hW (y7 h)) (hW (y7 g))),ro.b,ao (a9 (aS (·+8) (tY A.depth 1 (8*n)))) (ao (ci (show 9≤12 by decide) (A.depth+8*n)) ro.d),ao (a9 (aS (·+40) (tY A.units 3 (40*n)))) (ao (ci (show 43≤60 by decide) (A.units+40*n)) ro.j)⟩
end
section
def v1 (G:bM) (H:List Nat) (f:au) (us:List aV):Prop:=∀y s,bG y f=ac s→∃(i:Nat) (v:aV),H[i]? =ac y∧us[i]? =ac v∧jw G y v s
theorem v1.cons (a:jw G p v sl0) (h:v1 G H f us):v1 G (p::H) ((p,sl0)::f) (v::us):=fun y s e=>by
 have e:(if p=y then ac sl0 else bG y f)=ac s:=e
 by_cases h:p=y
 ·rw[aJ h] at e;injection e with e;subst e h;exact⟨0,v,rfl,rfl,a⟩
 ·rw[aL h] at e;exact(‹v1 G H f us› _ _ e).elim fun i h=>⟨i+1,h⟩
structure Oa (G:bM) (H:List Nat) (fr:au) (v d us:List aV):Prop where
 len:us.length=H.length
 eq:us=v∨us=v++d
 fr:v1 G H fr us
theorem MR (j:dw G D c) (k:D.length≤1):∀{s:List fJ} {V:List aV} {f:au},w1 G H s V→j8 H s D=ac f→∃us,Oa G H f V c us:=by
 induction H with
 |nil=>
  intro s V f A e;induction s using cn with
  |cons b g=>induction b<;>exact(by injection e)
  |nil=>
   induction V using cn with
   |nil=>exact⟨[],rfl,av rfl,fun y m h=>by injection e with e;subst e;exact(by injection h)⟩
   |cons _ _=>exact A.elim
 |cons p H i=>
  intro s V f A e;induction s using cn with
  |nil=>
   induction V using cn with
   |cons _ _=>exact A.elim
   |nil=>
    cases j with
    |nil=>exact(by injection e)
    | @cons d v n t b r=>
     cases r with
     |cons _ _=>exact(kY _ (q8 k)).elim
     |nil=>
      induction H using cn with
      |cons _ _=>exact(by injection e)
      |nil=>exact⟨[v],rfl,aI rfl,bD e▸ .cons b fun _ _ h=>((by injection h))⟩
  |cons b g=>
   induction V using cn with
   |nil=>exact A.elim
   |cons v V=>
    have o {sl0:ig} (S:jw G p v sl0) (e:(j8 H g D).map ((p,sl0)::·)=ac f):∃us,Oa G (p::H) f (v::V) c us:=
     (dg.mp e).elim fun F e=>(i A.2 e.1).elim fun us u=>⟨v::us,aS (·+1) u.len,u.eq.imp (aS _) (aS _),e.2▸u.fr.cons S⟩
    induction b with
    |l d=>exact o (sl0:=.l d) A.1 e
    |a q=>exact o (sl0:=.a q) A.1 e
end
noncomputable def O4 (o:cj):Bool:=match o.cls with
 |.type n=>n=="list"
 |_=>ai
theorem L6 (P:bY):((cO P).objs.toList.map O4)=(cO P).objs.toList.map fun _=>false:=by kernel_rfl
theorem IC (P:bY):(cO P).noLimitOk=true:=by kernel_rfl
theorem zj (P:bY):(kI.map fun p=>((cO P).get? p.1,(vH P p.1).map qR,p.2,fx (sM p.2).length 16777216))=kI.map fun p=>(ac (la (vH P p.1) (GC P p.1)),(sM p.2).map ac,aj.j (sM p.2),af):=by kernel_rfl
section
variable{Y:ar}
theorem LG (h:kI.lookup a=ac d) (b:(cO w.params).get? a=ac o):d8 w a=ac (.d d o):=by unfold d8;refine ak b ?_;dsimp only;refine ak h ?_;rfl
theorem C4 (h:qR v=ac d):a8 (d8 w) d v:=by
 induction v using Value.casesOn with
 |int i t=>injection h with h;subst h;exact⟨t,rfl⟩
 |str i t=>injection h with h;subst h;exact⟨t,rfl⟩
 |ref a=>exact mr (jH.mp (zj w.params) _ (hW h)) fun c b=>mr b fun _ b=>mr b fun b _=>(show d=_ from b)▸⟨a,_,rfl,LG ((b)▸h) c⟩
 |_=>exact(by injection h)
theorem A':∀{ds:List aj},vs.map qR=ds.map ac→dw (d8 w) ds vs:=by
 induction vs with
 |nil=>intro ds h;induction ds using cn with
  |nil=>exact cI
  |cons _ _=>exact(by injection h)
 |cons v vs i=>intro ds h;induction ds using cn with
  |nil=>exact(by injection h)
  |cons d ds=>injection h with a b;exact cy (C4 a) (i b)
theorem mP.head (k:mP w S G L Y s) (h:(cO w.params).get? a=ac o):s.heap.get? a=ac o:=by
 have y:∃t,d8 w a=ac t∧i8 ai t∧(t=.a o∨∃d,t=.d d o):=by
  unfold d8;refine ak h ?_;cases kI.lookup a with
  |none=>exact⟨_,rfl,trivial,av rfl⟩
  |some d=>exact g2 _ rfl trivial (aI ⟨d,rfl⟩)
 refine eA y fun t e u q=>ay (k.ok a t (k.base a t u e)) fun p b z=> ?_;rcases q with rfl|⟨d,rfl⟩
 ·exact z▸b
 ·exact z.1▸b
theorem F_ (B:er w mg mb) (F:iG w n (aZ n)):iG w (n+1) (aZ (n+1)):=by
 intro g a₁ Y d C a₂ z;refine cF z fun q κ μ m ν=> ?_;have T:=fun L a u=>JG (G6 w.params L a u) μ;have I:=T 0 0 fun _=>dj;refine(jG.mp (aS (·.1) I)).elim fun M X=>xF M q.params q.dflts κ X.1 (yI (aS (·.2.2.2.1) I)) m (?_);intro S G A s V R r k ξ Z;refine(dg.mp X.2).elim fun o α=>(dg.mp (aS (·.2.2.2.2.2.2.2.2.2.2.2.1) I)).elim fun ο β=> ?_;have N:∀b o,(cO w.params).get? b=ac o→s.heap.get? b=ac o:=fun b o e=>k.head e;have γ:=A' (w:=w) (aS (·.2.2.2.2.2.2.2.2.2.2.2.2.2.1) I);refine(MR (γ.mono k.base.ld) (lM (aS (·.2.2.2.2.2.2.2.2.2.2.2.2.2.2.1) I)) ξ m).elim fun Q U=> ?_;have T:=T s.heap.objs.size M.1 fun i=>Q.getD i dj;have δ:=(CD (a9 U.len.symm)).trans (U.len▸D1);have π:∃t,wC (cO w.params) (bindArgs (d7 w.params g) ⟨V,[]⟩)=t∧t=dm ((rO q).zip Q):=by
  rcases U.eq with e|e
  ·exact⟨_,rfl,by have j:=(congrArg (·.2.2.2.2.2.2.2.2.2.2.2.2.2.2.2.1) T);dsimp only[xu,wL,tx] at j;rw[Nat.sub_zero,δ,e] at j;rw[e];exact j⟩
  ·have P:q.params.length-q.dflts.length=V.length:=by rw[←γ.len,←U.len,e,List.length_append,Nat.add_sub_cancel]
   have E:nj (fun i=>Q.getD i .none) V.length=V:=(CD (by rw[e,List.length_append];exact Nat.le_add_right _ _)).trans (by rw[e];exact List.take_left' rfl);exact bd _ rfl (by have j:=(congrArg (·.2.2.2.2.2.2.2.2.2.2.2.2.2.2.2.2.1) T);dsimp only[xu,wL,tx] at j;rw[P,E] at j;rw[e];exact j)
 refine codeAny_call_function (Nat.lt_of_le_of_lt (Nat.le_trans (Nat.le_add_right _ _) (Nat.le_trans (Nat.le_add_right _ _) r.d)) (by decide)) (N _ _ α.1) α.2 (congrArg (·.2.2.2.2.2.1) I) (congrArg (·.2.2.2.2.2.2.1) I) (congrArg (·.2.1) I)
  (xF _ ο _ _ (congrArg (·.2.2.2.2.2.2.2.2.2.2.1) I) (N _ _ β.1) β.2 (congrArg (·.2.2.2.2.2.2.2.2.2.2.2.2.1) I)) (π.elim fun t j=>PK N j.1 (ak j.2 (wpAny_pure ?_)))
 refine ak (show(d7 w.params g).closure=[] from congrArg (·.2.2.2.2.2.2.2.2.1) I) (wpAny_newFunctionEnv_cells (congrArg (·.2.2.2.2.1) I) (fun x ρ=> ?_) fun σ W a₃ x=> ?_)
 ·refine ay (List.mem_map.mp (List.of_mem_zip ρ).1) fun p τ e=> ?_;have j:=cH.mp (aS (·.2.2.2.2.2.2.2.2.2.2.2.2.2.2.2.2.2.2.1) T) p τ;exact ak (cB e) (((dK ..).mp (bI j).2).imp dB fun j=>⟨dB (bI j).1,(bI j).2⟩)
 have W:σ=pM (d7 w.params g) s.heap.objs.size M.1:=W;subst W;refine⟨(T3 (IC w.params)).keeps fun b o e=>x.toInCall.keep b o (N b o e),codeAny_func ((Ly (c:=zT (d7 w.params g) w S A n s.heap.objs.size M.1) k x (fun _=>rfl) fun y υ e=> ?_).elim fun φ χ=> ?_)⟩
 ·refine(U.fr y υ e).elim fun i j=>eA j fun v ε ζ ψ=>⟨?_,v,ψ, ?_⟩
  ·exact lM (bI (cH.mp (aS (·.2.2.2.2.2.2.2.2.2.2.2.2.2.2.2.2.2.2.1) T) y (eR ε))).1
  ·have:=G9 (aS (·.2.2.2.2.2.2.2.2.2.2.2.2.2.2.2.2.2.2.2) T) ε (by rw[tX (by rw[←U.len];exact(hy.mp ζ).1)]);rw[δ] at this;exact this.trans (aS (fun o=>ac (Option.getD o dj)) ζ)
 refine(P6 B F 60 60 (bv _)).s (Hr (aS (·.2.2.2.2.1) I) (aS (·.2.2.2.2.2.2.2.1) I) (aS (·.2.2.2.2.2.2.2.2.2.1) I) (aS (·.2.2.2.2.2.2.2.2.2.2.2.2.2.2.2.2.2.1) T) r x) (aS (·.2.2.1) I) χ ν fun{f a₄ a₅ a₆ a₇ a₈} ω η θ w=>dQ w fun E P ι=> ?_;have l:=φ.tr ω;induction f with
 |next=>subst θ;exact Z l (ι▸η.sc) P ((E)▸rfl)
 |h a₉=>refine ay θ fun v a₀ D=> ?_;subst a₀;exact Z l (ι▸η.sc) P ((E)▸D)
 |_=>exact E.elim
end
theorem GY (B:er w mg mb) (n:Nat):iG w n (aZ n):=by
 induction n with
 |zero=>exact fun h=>EI h
 |succ n i=>exact F_ B i
theorem wZ (e:d8 w a=ac t):∃o,(cO w.params).get? a=ac o∧(t=.a o∨∃d,kI.lookup a=ac d∧t=.d d o):=by
 unfold d8 at e;cases h:(cO w.params).get? a with
 |none=>rw[h] at e;exact nomatch e
 |some o=>
  rw[h] at e;have e:(match kI.lookup a with|some d=>ac (fl.d d o)|none=>ac (fl.a o))=ac t:=e
  cases l:kI.lookup a with
  |none=>rw[l] at e;exact⟨o,rfl,av (bD e).symm⟩
  |some d=>rw[l] at e;exact⟨o,rfl,aI ⟨d,rfl,(bD e).symm⟩⟩
theorem OY (e:d8 w a=ac t):∃o,(cO w.params).get? a=ac o∧∀L,kx w (d8 w) [] L o t:=by
 rcases wZ e with⟨o,h,rfl|⟨d,l,rfl⟩⟩
 ·exact⟨o,h,fun _=>rfl⟩
 ·refine⟨o,h,fun _=>mr (jH.mp (zj w.params) _ (hW l)) fun f b=>mr b fun b c=>mr c fun c g=> ?_⟩;rw[show d=_ from c];exact⟨rfl,_,_,bD (h.symm.trans f),A' b,jj▸lM g⟩
theorem A_ (P:bY):(cO P).isNs n_=af∧(cO P).isNs ry=true:=⟨by kernel_rfl,by kernel_rfl⟩
noncomputable def tH (P:bY) (x:br):Option Value:=(cO P).nsMap n_ x
noncomputable def By (P:bY) (x:br):Option Value:=(cO P).nsMap ry x
theorem Pp (P:bY):(l7.map fun p=>(tH P (d_ p.1),By P (d_ p.1)))=l7.map fun p=>(ah,ac p.2):=by kernel_rfl
theorem Jh (P:bY):(j0.map fun p=>cond (fx 100 p.2) (tH P (d_ p.2)) ah)=j0.map fun p=>cond (fx 100 p.2) (ac (am (mo p.2))) none:=by kernel_rfl
theorem Qm (P:bY):(lG.map fun p=>(tH P p.1).bind qR)=lG.map fun p=>ac p.2:=by kernel_rfl
theorem vI (w:bZ):er w (tH w.params) (By w.params) where
 ns:=.of_isNs (A_ _).1
 a:=.of_isNs (A_ _).2
 blt:=fun x v h=>mr (jH.mp (Pp w.params) _ h) EM
 funs:=fun g b c=>by
  obtain⟨p,e,rfl,_⟩:=B3 b;have h:=jH.mp (Jh w.params) p e;rwa[DF c] at h
 consts:=fun x d h=>(jG.mp (jH.mp (Qm w.params) _ (hW h))).imp fun v h=>⟨h.1,C4 h.2⟩
set_option backward.match.sparseCases true in
theorem GV {a:WTm} {e:WCtx} {d:Bool} (c:yt [] a e=ac (g7 d)) (h:WTm.holds [] (.and (.not a) (.lit (g7 af))) e=af):d=false:=by
 induction d with
 |false=>rfl
 |true=>
  have E:yt [] (.not a) e=(match yt [] a e with|some (.bool b)=>ac (g7 (!b))|_=>ah):=rfl
  rw[c] at E;have h:(match(match yt [] (.not a) e with|some (.bool false)=>ac (g7 ai)|some (.bool true)=>ac (g7 af)|_=>ah:Option rD) with|some (.bool true)=>af|_=>ai)=true:=h
  exact(by injection(E▸h))
theorem OQ {A:List rD} (h:cY.row.toRowW.claim.pre A=af):∃ns:List Int,A=[uD (ns.map k8)]∧ns.length≤63:=by
 have h:=bI (h);have c:=h.1;induction A using cn with
 |nil=>exact(by injection c)
 |cons d r=>
  have c:=bI (show(Sy [] d (.list .int)&&WShape.hasAll [] r [])=af from c);induction r using cn with
  |cons _ _=>exact nomatch c.2
  |nil=>
   refine ay (hasW_list c.1) fun X y x=> ?_;subst y;obtain⟨ns,rfl⟩:=items_int x;exact bd ns rfl (aB (f:=k8)▸gq.mp (hD.mp (rk (GV (e:={args:=[uD (ns.map k8)]}) (a:=.lt (.lit (k8 63)) (.len (.arg 0))) (aS (yn g7) (show W.less? (k8 63) (k8 (ns.map k8).length)=ac (aM ((63:Int)<(ns.map k8).length)) by rw[W.less?];rfl)) h.2))))
noncomputable def o_ (w:bZ) (s:ct) (b:bp) (ds:List aj) (o:cj):bM:=fun a=>(d8 w a).or (if a=b then ac (.d (.c ds) o) else(s.heap.get? a).map .a)
section
variable{w:bZ} {s:ct} {b:bp} {ds:List aj} {vs:List aV} {n:Nat} {fr:au}
theorem zO {a:bp} {t:fl} {c:cj} (e:o_ w s b ds c a=ac t):d8 w a=ac t∨(a=b∧t=.d (.c ds) c)∨∃o,s.heap.get? a=ac o∧t=.a o:=by
 refine(Dx.mp e).imp_right fun e=> ?_;have e:=e.2;by_cases h:a=b
 ·rw[aJ h] at e;exact av ⟨h,(bD e).symm⟩
 ·rw[aL h] at e;exact aI ((dg.mp e).imp fun o h=>⟨h.1,h.2.symm⟩)
theorem HQ (y:∀a o,(cO w.params).get? a=ac o→s.heap.get? a=ac o) (l:s.heap.get? b=ac (d5 vs n)):d8 w b=none:=by
 unfold d8;induction c:(cO w.params).get? b with
 |none=>rfl
 |some o=>
  have h:=jH.mp (L6 w.params) o (Rp.mpr (Array.mem_of_getElem? (Heap.get?_some_iff.mp c).1));rw[bD ((y _ _ c).symm.trans l)] at h;exact(by injection h)
theorem HI (y:∀a o,(cO w.params).get? a=ac o→s.heap.get? a=ac o) (l:s.heap.get? b=ac (d5 vs n)) {a:bp} {o:cj} (c:s.heap.get? a=ac o):∃t,o_ w s b ds (d5 vs n) a=ac t∧i8 ai t∧(t=.a o∨∃d,t=.d d o):=by
 unfold o_;induction g:d8 w a with
 |some t=>
  refine bd t rfl (?_);rcases wZ g with⟨f,h,q⟩;have e:=bD (c.symm.trans (y _ _ h));subst e;rcases q with rfl|⟨d,_,rfl⟩
  ·exact⟨trivial,.inl rfl⟩
  ·exact⟨trivial,.inr ⟨d,rfl⟩⟩
 |none=>
  by_cases h:a=b
  ·subst h;exact g2 (.d (.c ds) (d5 vs n)) (aJ rfl) trivial (aI ⟨_,aS _ (bD (l.symm.trans c))⟩)
  ·exact g2 (.a o) ((aL h).trans (aS (yn fl.a) c)) trivial (av rfl)
theorem Hm (y:∀a o,(cO w.params).get? a=ac o→s.heap.get? a=ac o) (l:s.heap.get? b=ac (d5 vs n)) (v:∀{G},dw G ds vs) (hz:ds.length≤fR):mP w s (o_ w s b ds (d5 vs n)) fr [] s∧o_ w s b ds (d5 vs n) b=ac (.d (.c ds) (d5 vs n)):=by
 have u {a:bp} {t:fl} (e:d8 w a=ac t):o_ w s b ds (d5 vs n) a=ac t:=aS (yp · _) e;refine⟨⟨⟨s.heap,s.toks,rfl⟩,fun a t e=> ?_,fun a c t S e f=>aR S ?_,fun a t _ e=>u e⟩, ?_⟩
 ·rcases zO e with h|⟨rfl,rfl⟩|⟨o,g,rfl⟩
  ·exact(OY h).imp fun o k=>⟨y _ _ k.1,(k.2 fr).view (fun a t _ e=>u e) (.f fun _ _ _ h=>u h)⟩
  ·exact⟨_,l,rfl,vs,n,rfl,v,hz⟩
  ·exact bd o g rfl
 ·rcases zO e with h|⟨_,rfl⟩|⟨o,_,rfl⟩
  ·rcases wZ h with⟨o,_,rfl|⟨d,_,rfl⟩⟩<;>exact id
  ·exact id
  ·exact id
 ·exact(aS (yp · _) (HQ y l)).trans (aJ rfl)
end
theorem IV {h:fT} {L:bp} {m M:br→Option aV} (a:h.Ns L m) (b:h.Ns L M):m=M:=by
 refine wu a fun o E p c d _ f=>wu b fun j l q k g _ i=> ?_;have e:=bD (c.symm.trans k);subst e;have e:=d.symm.trans g;injection e with e;subst e;exact funext fun x=>(f x).symm.trans (i x)
def LV (P:bY) (h:fT) (v:aV) (d:rD):Prop:=match d with
 |.int i=>∃t,v=aq i t
 |.list x=>∃a vs,v=am a∧h.get? a=ac (d5 vs 0)∧yG P h vs x
 |_=>True
theorem AH {P:bY} {h:fT} {v:aV} {d:rD} (x:Well P h v d):LV P h v d:=by
 induction x using Well.casesOn with
 |int i t=>exact⟨t,rfl⟩
 |list a b=>exact⟨_,_,rfl,a,b⟩
 |_=>exact trivial
theorem zJ {P:bY} {h:fT} {vs:List aV} {ds:List rD} (x:yG P h vs ds) (e:ds=[]):vs=[]:=by
 induction x using WellAll.casesOn with
 |nil=>rfl
 |cons=>exact(by injection e)
theorem M8 {P:bY} {h:fT} {G:bM} {ns:List Int}:∀{vs:List aV},yG P h vs (ns.map k8)→dw G (ns.map ae) vs:=by
 induction ns with
 |nil=>intro vs h;exact zJ h rfl▸cI
 |cons n ns i=>intro vs h;exact(SM h).elim fun v h=>h.elim fun vs h=>dQ h fun e a r=>e▸cy (AH a) (i r)
theorem NF {P:bY} {h:fT} {vs:List aV} {ns:List Int} (x:yG P h vs [uD (ns.map k8)]):∃b us,vs=[am b]∧h.get? b=ac (d5 us 0)∧∀{G},dw G (ns.map ae) us:=
 (SM x).elim fun v x=>x.elim fun r x=>dQ x fun e a n=>(AH a).elim fun b h=>h.elim fun us h=>es b us (by rw[e,h.1,zJ n rfl]) h.2.1 (M8 h.2.2)
theorem Iq:j_.name="law":=by kernel_rfl
set_option backward.match.sparseCases true in
theorem KV (a B:List rD):cY.row.toRowW.claim.post a (g7 af) B=true:=by
 have h:W.same (g7 af) (g7 af)=true:=by rw[W.same];rfl
 have e:WTm.holds [] (.eq .res (.lit (g7 af))) {args:=a,res:=ac (g7 af),after:=B}=true:=aS (fun b=>(match ac (g7 b) with|some (.bool true)=>af|_=>ai:Bool)) h
 exact(fu (Sy [] (g7 af) .bool) _).mpr ⟨by kernel_rfl,e⟩
theorem NC:jb.lookup 295=ac (1180,1179):=by decide
theorem Jn:("law":br)=d_ 295:=by kernel_rfl
theorem KZ {w:bZ} {s:ct} {b:bp} {us:List aV} {ns:List Int} {A:pO} {R:Result→ct→Prop} (ro:o4 60 A) (y:∀a o,(cO w.params).get? a=ac o→s.heap.get? a=ac o) (i:s.heap.get? b=ac (d5 us 0)) (r:∀{G},dw G (ns.map ae) us) (j:ns.length≤63)
  (u:∀h' tk,(∀c o,s.heap.get? c=ac o→h'.get? c=ac o)→R (jJ (.ret (cC af))) {s with heap:=h',toks:=tk}):oi (aN aC w) A (.call (am 1180) ⟨[am b],[]⟩) R s:=by
 refine(P_ j).elim fun S x=>(GY (vI w) 60 x).elim fun F h=>h.elim fun H h=>h.elim fun P h=>h.elim fun fr h=>dQ h fun z Q h=>h.elim fun m B=> ?_;have f:=bD (z.symm.trans NC);subst f;refine(Hm y i r (by rw[jj,aB];exact ao j (by decide))).elim fun k T=>B ro k ?_ fun{v U g L} l q _ C=> ?_
 ·induction H using cn with
  |nil=>exact(by injection m)
  |cons p H=>exact⟨(cN _ _ rfl T),by induction H using cn<;>trivial⟩
 ·refine(C)▸q.same.elim fun h' h=>h.elim fun tk e=>e▸u h' tk fun c V E=>eA (HI y i E) fun t I M N=>(q.ok c t (l c t M I)).elim fun W h=> ?_;rw[e] at h;rcases N with rfl|⟨d,rfl⟩
  ·exact h.2▸h.1
  ·exact h.2.1▸h.1
theorem Jf:WalkO lC nA (fun _ _=>True) r8 cY.row.toRowW j_ [] (fun f vs=>gN f vs):=by
 intro w S B m M G y a o P c d V C F I r L g i A Q R e T U l W;refine(OQ e).elim fun N h=> ?_;have j:a=1180:=by
  have h:=(show m j_.name=ac (am (mo 295)) from(IV G.T.g ((vI w).ns.elim fun o h=>h.elim fun E h=>h.elim fun p h=>iT o E p (y _ _ h.1) h.2))▸Iq▸Jn▸(vI w).funs 295 (by decide) (by decide)).symm.trans g;injection h with h;injection h with h;exact h.symm.trans (by decide)
 refine(NF (h.1▸l)).elim fun b q=>q.elim fun u q=>dQ q fun v x z=>ak j ?_;refine ak v ?_;exact yw (KZ ⟨rfl,by decide,by decide⟩ y x z h.2 fun X t k=>
  nf (av (rW _ (g7 af) ([]) rfl (fun _=>rfl) (.bool af) (KV _ _) (fun _=>⟨h7,fun _ h=>nomatch h⟩))) (.of_keep k) rfl (.of_eq i))
end Rh.Internal
theorem PySem.Challenge.cw_rh0138_01_holds : PySem.Challenge.rw_rh0138_01.Holds :=
 Rh.Internal.FO Rh.Internal.Jf
