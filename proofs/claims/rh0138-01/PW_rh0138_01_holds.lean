import PyProof.Rows.All
import Open.Pieces
import KE.IntText
import PyProof.WalkInts
import PyProof.TupleOfSeq
import PyProof.Rows.SortWalk
import PyProof.CallStr
import OpenK.KMake
import OpenK.KCls
import KE.KTupTruth
import KE.KSliceW
import KE.KItem
import KE.KIntText
import KE.KDictSum
import KE.KDictOf
import Lean
import PySem.Challenge.RW_rh0138_01
set_option linter.unusedVariables false
set_option maxRecDepth 100000
set_option Elab.async false
set_option maxHeartbeats 0
set_option genSizeOf false
set_option backward.match.sparseCases false
set_option compiler.extract_closed false
set_option genCtorIdx false
set_option genInjectivity false
set_option bootstrap.genMatcherCode false
open Bool renaming false→ai,true→af,and_eq_true→fu,rec→ER,and_eq_true_iff→bS,false_ne_true→cp,or_eq_false_iff→DM,or_eq_true→dK,true_and→Eh,or_false→Sy,not_eq_true'→x6,eq_iff_iff→ji,and_true→n9,false_and→yf,eq_false_iff→nV,eq_false_or_eq_true→Re,and_self→Ei,or_eq_true_iff→RM,false_eq_true→x1,not_true→Sz
open List renaming length→gK,toArray→Ep,casesOn→cn,cons→aO,nil→aP,rec→yC,replicate→cx,range→cv,append_assoc→ef,append_cons→rk,append_nil→c8,mem_append_right→eD,mem_cons_self→kZ,all_eq_true→cH,foldl_append→re,getElem?_eq_some_iff→hy,map_cons→eE,mem_cons→eS,mem_cons_of_mem→je,mem_map→cr,mem_of_getElem?→eR,nodup_cons→gn,zipIdx_cons→R_,length_map→aB,not_mem_nil→kh,all_map→pD,filter_cons→ri,flatMap_cons→D3,foldl_cons→t_,getElem?_eq_getElem→cS,getElem_of_mem→ra,length_filter_le→hY,map_map→eg,mem_append→dD,mem_singleton→bW,nodup_append→ke,pairwise_cons→pr,pairwise_singleton→Rf,contains_eq_mem→tY,filter_sublist→mX,getElem?_append_left→jF,getElem?_inj→D1,map_inj_right→DV,mem_filter→c_,mem_range→hB,length_append→bi,mem_flatMap→pz,dropLast_concat→Rz,getLast?_concat→Rw,length_replicate→kX,lookup_cons→fP,map_append→cd,take_left→ub,append_cancel_left→Dx,length_eq_zero_iff→fs,any_cons→Sw,contains_cons→RT,findSome?_append→Rs,findSome?_cons→xY,mem_append_left→cG,all_append→yb,all_cons→m0,all_nil→SK,any_eq_true→t6,contains_iff_mem→ee,lookup_eq_some_iff→Rg,findIdx?_eq_some_iff_getElem→QT,getElem?_map→dX,getElem?_range→tZ,map_congr_left→RE,flatMap_append→DQ,flatMap_singleton→DE,length_range→gm,map_eq_flatMap→kd,append_eq_nil_iff→pk,eq_replicate_iff→DH,filter_append→pv,getElem?_append_right→jE,getElem_append→RG,length_cons→mY,length_pos_iff→jf,sum_cons→n8,ext_getElem?→x5,getElem?_eq_none→po,mem_map_of_mem→q_,getElem?_zipIdx→Rx,length_zipIdx→pu,zipIdx_map_fst→xX,forall_mem_singleton→tU,drop_eq_nil_of_le→Rn,take_length→D4,drop_left'→Si,drop_nil→Sv,flatMap_def→D6,length_drop→rh,map_drop→yh,map_eq_nil_iff→DO,map_id→uk,exists_mem_of_ne_nil→nS,getElem_mem→k1,length_pos_of_mem→DC,range_succ→ya,map_nil→SJ,getElem?_mapIdx→nU,length_mapIdx→RQ,nodup_range→D5,any_eq_false→R0,forall_mem_cons→pp,sum_append→x_,drop_sublist→RZ,length_take_of_le→DB,map_take→rq,take_sublist→DZ,flatten_append→RH,flatten_cons→D2,flatten_singleton→Rm,mem_flatten→t5,take_append_drop→DF,take_of_length_le→DA,filter_eq_self→DR,forall_mem_append→DD,ne_nil_of_mem→x0,eq_of_mem_replicate→Rc,getElem?_take_of_lt→Rb,length_flatten→RF,length_take→nX,map_replicate→DU,sum_replicate_nat→Rk,foldr_cons→Sf,getElem?_drop→RS,length_singleton→DG,reverse_cons→D0,getElem_map→Sb,filter_reverse→RI,map_reverse→Sa,mem_reverse→x8,length_reverse→DP,filter_cons_of_neg→Dw,filter_cons_of_pos→Du,getElem?_set_ne→Ry,getElem?_set_self→Rl,lookup→kj,map_inj_left→jH,append_toArray→xZ,replicate_succ→RD,size_toArray→d2,isEmpty_toArray→DK,nodup_nil→ye,getElem?_toArray→pn,filterMap→Sp,take_add_one→RX,dropLast_eq_take→Rt,eraseIdxIfInBounds_toArray→QV,push_toArray→RY,drop_eq_getElem_cons→Q_,drop_length→Sc,forIn_cons→D_,find?_some→Sg,mem_of_find?_eq_some→Q'
open Nat renaming beq→d3,ble→fx,add_assoc→ev,add_comm→f_,add_le_add→dd,add_le_add_left→cj,add_le_add_right→dc,add_mul→um,eq_of_beq_eq_true→jd,le_of_ble_eq_true→lM,le_of_eq→a9,le_of_not_lt→dC,le_refl→bv,le_trans→ao,le_zero→rx,lt_of_le_of_lt→jg,mul_add→EK,mul_assoc→En,mul_comm→Ez,mul_le_mul_left→fh,mul_le_mul_right→pq,mul_one→lR,mul_succ→Ey,one_mul→rv,succ→fB,zero→fA,zero_add→jI,zero_le→cA,zero_lt_one→pB,zero_mul→Ev,casesOn→ir,le_of_lt_succ→iW,le_of_succ_le_succ→q9,lt_of_lt_of_le→ft,not_lt_zero→rn,not_lt_of_le→e7,le_add_left→gH,le_of_lt→gJ,lt_of_not_le→f',succ_ne_zero→D9,lt_irrefl→gI,lt_trans→rt,ne_of_lt→hZ,eq_or_lt_of_le→RW,eq_zero_or_pos→DX,le_succ→fQ,ne_of_gt→lP,le_add_right→bu,le_antisymm→e8,min_eq_left→ua,lt_or_eq_of_le→x3,not_succ_le_zero→kY,succ_le_succ→b3,cast→EU,sub_le→it,sub_sub→S1,add_sub_cancel'→rb,lt_succ_of_le→t4,succ_mul→SV,add_lt_add_right→xW,add_sub_cancel_left→Dy,le_max_left→iY,le_max_right→mZ,not_le_of_lt→jh,sub_add_cancel→fi,sub_le_iff_le_add→g3,sub_lt_left_of_lt_add→tV,sub_self→pE,le_of_succ_le→kg,lt_succ_self→lO,max_le→yr,add_right_comm→t0,succ_lt_succ→D',min_eq_right→x',lt_of_le_of_ne→rc,sub_pos_of_lt→t3,le_succ_of_le→rf,add_zero→EC,lt_or_ge→EA,mul_le_mul→k2,zero_ne_one→So,le_mul_of_pos_right→Rj,le_of_add_right_le→pm,succ_pos→m3,lt_succ_of_lt→px,pos_of_ne_zero→x2,eq_of_testBit_eq→RC,or_assoc→ug,or_comm→EJ,or_self→ul,or_zero→S2,testBit_or→yg,min_le_left→yc,min_le_right→nY,sub_eq_zero_of_le→tX,sub_zero→Ew,le_total→EB,sub_lt_sub_left→RP,ble_eq_true_of_le→DI
open Option renaming none→ah,some→ac,bind_eq_some_iff→jG,map_eq_some_iff→dg,getD_some→nW,map→yo,isSome_iff_exists→mW,map_some→n5,any_some→x9,or→yq,or_eq_some_iff→Dz
open PySem renaming Addr→bp,DictEntry→eT,Env→od,Heap→fT,Obj→cl,OsState→ew,Params→bX,Stmt→di,Str→br,Value→aV,World→bZ,reduceHash→yz,treeTable→pK,Shared→ct,importedModules→Em,mainGlobals→n_,call→gN,CmpOp→m_,Operator→m7,Expr→c6,Scope→gM,Around→pO,cLine→pQ,eqIsQuiet_byValue→SE,model→aN,wpAny→aH,wpAny_bind→aG,wpAny_call_entry→pA,wpAny_forIn_list→SN,wpAny_isInstance→SM,wpAny_pure→bo,wpAny_ret_mkInt→SZ,wpAny_rule→yw,wpAny_specialOf→uc,sizeLine→fR,NameKind→lV,builtinsNs→rz,eval→bO,storeName→yD,wpAny_loadName_cell→x4,wpAny_loadName_free→Sl,wpAny_loadName_local→Sd,setAttr→uB,sizeLine_eq→jj,Sem→h8,foldedSetIterable→SD,getItem→m9,isTrue→lX,starEach→gt,binaryOp→oe,call_meets→ob,concat_meets→yp,noFill_tuple_add→Ee,seq_tuple_add→EH,compareOp→gr,truthy→rC,wpAny_truthy_bool→rg,wpAny_truthy_list→SB,atKey→om,intKind_is→ut,sysModules→yy,seqIndex?→EV,IsPart→i0,sliceBounds→EO,wpAny_callSpecial?_slot→xV,wpAny_field→ry,wpAny_holding→eF,wpAny_newObj_type→t7,wpAny_typeOf→EM,call_meetsIn→ru,wpAny_dictEntries→t8,wpAny_letGo→EN,wpAny_newList→EF,list_append→RO,wpAny_pyIter_list→Ea,backTo→gL,spliced→lW,attributeBase→yl,wpAny_Dict_empty→SP,wpAny_letTemporaryGo→DW,wpAny_mono→d9,wpAny_standAt→fw,arm_eval_Subscript→Su,wpAny_operating→Ej,standAt→uA,pyIter→km,pyNext→uD,rawInt→oj,strIterType→pF,wpAny_attempt→EG,wpAny_dictEpoch→El,wpAny_isOneOf_keyiter→R9,wpAny_notOrdered_dict→R8,wpAny_of_eq→ys,wpAny_typeNameOfWhole_keyiter→xS,wpAny_Call_NameR→SQ,assign→uE,assignEach→ES,wpAny_assign_Name→Eb,codeAny→oi,letOwnedTupleGo→S0,wpAny_execs_nil→Ek,compEnvC→uy,relabel→yG,comprehension→EI,wpAny_comp_letGo→SO,Slot→SS,callWith→kl,getMethod→m6,wpAny_call→yx,exec→ot,swapsWith→pL,wpAny_Assign_Name→t9,inplaceOp→EW,wpAny_release→EE,wpAny_delItem_slot→Sr,wpAny_listPart→Er,FuncData→rB,callEnvC→pM
open PySem.Challenge renaming pw_rh0138_01→Tn,rw_rh0138_01→Dm
open PySem.Data renaming dict→k9,fields→m8,func→pP,seq→op
open PySem.Flow renaming next→h6
open PySem.FuncBody renaming stmts→EQ
open PySem.Obj renaming cls→iy,data→ix,mapSeq→uo,data_mapFields→RV,mapFields→SG,data_mapDictKeys→RB
open PySem.Stmt renaming FunctionDef→ym,Pass→uG,Assign→iZ,AugAssign→uq,Delete→yF
open PySem.Value renaming bool→cC,builtin→bJ,int→aq,none→dj,ref→am,str→ba,type→bn
open PySem.W renaming SharedT→jk,boot_drawn→ET,boot_heap→oc,boot_toks→EX,piece_app→lT,segRun_of→lS,topFrame→og,findIn→lZ,kms_hi→lY,kms_lo→fz,emptyDict→lU,instObj→k7,WData→rE,WellAll→yH,wellAll_cons_inv→SR
open PySem.W.Fast renaming te10110043849684766642→T7,te11892475500146522536→T6,te14364793385576792824→QJ,te15667345088766844465→T4,tw10110043849684766642→Tw,tw14364793385576792824→Tv,te4187177175401517315→T1,te15985051520779696433→T3,te6116379765354995101→T0,te10792542408131684335→xR,te13582783067957832011→T5,te16286561074155671207→T2,te17119622794617984870→xQ,te18344453789297297638→QI,te797321630700447069→QM,te8179353310426384613→TZ,te8326940854005059898→QK,te8377067652309620493→Tz,te9558739934217749035→Tx
open PySem.Shared renaming heap→dk,toks→de
open PySem.ScopeKind renaming function→k4
open PySem.W.WData renaming list→uF,bool→g7,int→k8
open PySem.W.OpenLaw renaming wellSaid→RA
open Eq renaming symm→cB,trans→ux
open Decidable renaming decide→aM
open Int renaming fmod→uw,natCast_nonneg→gG,ofNat_lt→g5,toNat_natCast→py,eq_ofNat_of_zero_le→Ro,not_lt→hD,ofNat→k6,ofNat_le→gq,not_le→oa,le_of_eq→yk,le_trans→lQ,ofNat_inj→Eo,ofNat_sub→yi,sub_right_le_of_le_add→xT,zero_add→ED,toNat_sub→rr,toNat_lt→yj,toNat_of_nonneg→DS,sub_nonneg→Eg,add_comm→SY,sub_eq_iff_eq_add→DJ,le_sub_left_of_add_le→Rd,sub_nonpos_of_le→RJ,le_of_lt→ui,lt_of_le_of_lt→DY,lt_trans→uh,ne_of_gt→SX,toNat_le→SW,add_lt_add_right→RL,lt_of_lt_of_le→R7,neg_le_neg→Sx,negSucc→ur,negSucc_lt_zero→DT,le_natAbs→SL
open Min renaming min→hF
open PySem.Builtin renaming bitAnd→D7,bitOr→ud
open PySem.CmpOp renaming Gt→d4,GtE→jl,Lt→eU,LtE→oq,Eq→a6,IsNot→pN,NotEq→eG,In→c7,NotIn→m'
open PySem.Operator renaming Add→b9,BitAnd→uC,BitOr→iw,FloorDiv→uv,Mult→oo,Sub→fU
open Sum renaming inl→fS,inr→jm
open PySem.Str renaming ofString→gp
open Option.some renaming inj→bD,injEq→lN
open False renaming elim→EL
open Or renaming inl→av,inr→aI,elim→uz
open LawfulBEq renaming eq_of_beq→iv
open List.Mem renaming head→cU,tail→e9
open Int.ofNat renaming inj→dh
open Ne renaming symm→oh
open List.Pairwise renaming nil→h7,sublist→QX
open List.Perm renaming refl→rD,eq_of_pairwise→Q1
open Nat.succ renaming inj→ue
open List.cons renaming injEq→rj,inj→rp
open Prod.mk renaming injEq→Ed,inj→Sn
open Prod renaming ext→uu,fst→yB,snd→yA
open Classical renaming byContradiction→gl
open PyProof.Rows renaming bitAnd_pp→QW,bitOr_and→Ue,nat_or_add_and→Ua,getItem_tuple→Ub,slot_tuple_getitem→D8,entry_list_sort→Uc,neg_int→T_,callWith_type→Ud
open Inhabited renaming default→fy
open PySem.Expr renaming Attribute→iu,Call→i1,Compare→rA,Constant→pJ,Dict→uH,List→pR,ListComp→pI,Name→ey,Subscript→pH,Tuple→ol,UnaryOp→yE
open PySem.PyData renaming depthAll→RU,eqv→yn
open Array renaming forIn_toList→RN,mem_toList_iff→Ru,not_mem_empty→DN,length_toList→q',getElem?_toList→Rp,getElem?_eq_none→Ri
open PySem.Builtin.Tuple renaming tupleHashOf→tT,tupleItemsOf→QP,tupleExact→Tq,tupleIsExact→Tp
open PySem.F renaming slot_tuple_hash→x7,args_tuple_add_2→Dq,entry_tuple_add→Dr,slot_int_rmul→SH,slot_tuple_add→Dt,slot_dict_len→SI,args_list_append_2→QZ,args_list_extend_2→QY,entry_list_append→Q5,entry_list_extend→Q4,slot_list_append→Dp,slot_list_extend→Do,slot_list_pop→Ra,slot_list_reverse→Q2,args_dict_keyiterator_next_1→QN,entry_dict_keyiterator_next→QO,slot_dict_iter→Q9,slot_dict_keyiterator_next→tS,args_dict_get_2→Q8,args_dict_get_3→Q7,entry_dict_get→xU,plainAttrs_list→Q6,slot_dict_get→tW,slot_list_delitem→Q3,slot_dict_delitem→R'
open Subtype renaming ext→Sj
open PySem.Heap renaming get?→yt,get?_push_of_some→iq,get?_push_size→g4,lt_size→ki,SameBut→hC,size_push→yd,get?_update_self→Rq
open PySem.NameKind renaming cell→gu,free→d',«local»→g6,globalImplicit→pC
open Pure renaming pure→dm
open PySem.Builtin.List renaming listFitsIndex→T',listTooLong→QU,listSubscript?→T9
open And renaming intro→EP
open PySem.Builtin.Slice renaming sliceAdjust→QS,sliceApplied→QQ,sliceFields→Tt,slicePartIndex→Ts,slicePlaces→Dn
open PySem.Builtin.Str renaming strSliceIndices→QR
open PySem.IsPart renaming none→rF
open PySem.Txt renaming slice→yv
open Except renaming ok→jJ
open PySem.Calls renaming call_function_entry→Rv,Name_function_global→Se,spliced_cons→m5,spliced_nil→pG,callWith_builtin→SU,evalArgs_plain→Eu
open PySem.Heap.SameBut renaming update→nT
open PySem.Builtin.Dict renaming showsAll→Q0,takeOut→Ds
open PySem.Builtin.Dict_items renaming ownsTuple→QL
open PySem.Walks renaming range→Et,strAscii→Ec,strWide→Ef,tuple→Es
open PySem.Builtin.Range renaming rangeSize→Tu
open PySem.IsRange renaming new→Sm
open ForInStep renaming yield→nZ
open PySem.Env renaming kindOf→Rr
open PySem.Code renaming builtin→uf
open PySem.AutoIntOps renaming iadd_0→Tl,isub_0→Tk
open List.Sublist renaming map→Uf
open PySem.Heap.IsSliceOf renaming new→To
open PySem.Heap.NoLimit renaming of_ok→T8
open PySem.W.WShape renaming has→SF
open PySem.W.WTm renaming value→yu
namespace Rh.Internal
open PySem
section
open PySem.W PySem.Calls PyProof.Rows
noncomputable abbrev aC:Program:=Tn
noncomputable def hf:Pos:=⟨0,0,0,0⟩
noncomputable def f9 (i:Nat):Stmt:=(aC.main.body[i]?).getD (uG hf)
noncomputable def j_ (i j:Nat):Stmt:=match f9 i with|.ClassDef _ _ _ b _ _ _ _ _ _ _=>(b[j]?).getD (uG hf)|s=>s
noncomputable abbrev bC:Value:=dj
noncomputable def L9 (Y:di) (q:br) (g:bp) (d p c:aV) (b:bp):Data:=match Y with
 |.FunctionDef n a B _ _ _ s _ _ _=>pP {name:=n,qualname:=q,params:=a,body:=EQ B,scope:=s,globals:=g,closure:=[],defaults:=d,kwdefaults:=dj,pyModule:=p,code:=c,builtins:=b}
 |_=>.plain
noncomputable def bU (l:List aV):Obj:={cls:=bn "tuple",data:=op l.toArray}
noncomputable def iQ (l:List aV):Obj:={cls:=dj,data:=m8 l.toArray}
noncomputable def ca (c:String) (l:List aV):Obj:={cls:=bn c,data:=m8 l.toArray}
noncomputable def jB (c:String) (d:Option bp) (sl:List (Option aV)):Obj:={cls:=bn c,dict:=d,data:=.plain,slots:=sl.toArray}
noncomputable def NB (P:bX) (x:br):Int:=if x.cps.isEmpty then 0 else yz (P.strHash x.cps)
noncomputable def cm (P:bX) (x:br) (t:Tok) (v:aV):DictEntry:=⟨NB P x,ba x t,v⟩
noncomputable def e4 (c:aV) (l:List eT) (k:Nat):Obj:={cls:=c,data:=k9 l.toArray k}
noncomputable def sM (c:aV) (Y:di) (q:br) (g:bp) (d p C:aV) (b:bp):Obj:={cls:=c,data:=L9 Y q g d p C b}
noncomputable def j4 (n:br) (b m:List aV) (ns:bp) (q:br) (s:List aV) (sl:List (Option aV)):Obj:=
 {cls:=bn "type",data:=.cls {name:=n,bases:=b,mro:=m,ns:=ns,qualname:=q,subclasses:=s},slots:=sl.toArray}
noncomputable def yU:List cl→List cl×List cl
 |[]=>([],[])
 |[a]=>([a],[])
 |a::b::r=>(a::(yU r).1,b::(yU r).2)
noncomputable def AU:Nat→List cl→BT
 |0,_=>.nil
 |_+1,[]=>.nil
 |k+1,v::r=>.node v (AU k (yU r).1) (AU k (yU r).2)
noncomputable def pa (Y:di):List Str:=match Y with
 |.FunctionDef _ a _ _ _ _ _ _ _ _=>a.args.map (·.arg)
 |_=>[]
noncomputable def lc (Y:di):Str:=match Y with
 |.FunctionDef x _ _ _ _ _ _ _ _ _=>x
 |_=>""
noncomputable def rY (Y:di) (c:br) (t a:Nat) (d m:aV) (l:List br):List Obj:=
 [bU [],iQ [],bU ((pa Y++l).zipIdx.map fun p=>ba p.1 (t+3+p.2)),bU [],sM bC Y (c++lc Y) 0 bC bC bC 0,
 ca "code" [ba (lc Y) t,ba (c++lc Y) (t+1),ba "/claim/cut.py" (t+2),aq Y.pos.line 0,aq (pa Y).length 0,aq 0 0,aq 0 0,aq 3 0,am a,cC af,aq 181 0,am (a+1),bC,am (a+2),am (a+3),am (a+4),aq (t+3+(pa Y++l).length:Nat) 0,aq Y.pos.line 0,ba "/claim/cut.py" (t+4+(pa Y++l).length)],
 sM (bn "function") Y (c++lc Y) 3 d m (am (a+5)) 0]
noncomputable abbrev gg:=Nat×Nat×Nat×List br
noncomputable def EZ (Y:di) (c:br) (t a:Nat) (d m:aV):List Obj:=
 [bU [],iQ [],sM bC Y (c++lc Y) 0 bC bC bC 0,
 ca "code" [ba (lc Y) t,ba (c++lc Y) (t+1),ba "/claim/cut.py" (t+2),aq Y.pos.line 0,aq (pa Y).length 0,aq 0 0,aq 0 0,aq 3 0,am a,cC af,aq 181 0,am (a+1),bC,bC,bC,am (a+2),aq (t+3:Nat) 0,aq Y.pos.line 0,ba "/claim/cut.py" (t+4)],
 sM (bn "function") Y (c++lc Y) 3 d m (am (a+3)) 0]
noncomputable def Cb (F:Nat→di) (c:br) (m d:aV) (r:gg):List Obj:=cond (d3 (r.1/1000%2) 1) (EZ (F (r.1%1000)) c r.2.1 r.2.2.1 d m) (rY (F (r.1%1000)) c r.2.1 r.2.2.1 d m r.2.2.2)
noncomputable def Hk (F:Nat→di) (c:br) (m:aV) (r:gg):List Obj:=
 cond (fx 2000 r.1) (bU [aq 0 (r.2.1-1)]::Cb F c m (am (r.2.2.1-1)) r) (Cb F c m bC r)
noncomputable def fq (F:Nat→di) (c:br) (m:aV) (l:List gg):List Obj:=l.flatMap (Hk F c m)
noncomputable def io (P:bX) (r:gg):DictEntry:=cm P (lc (f9 (r.1%1000))) (r.2.1+5+cond (d3 (r.1/1000%2) 1) 0 (pa (f9 (r.1%1000))++r.2.2.2).length) (am (r.2.2.1+cond (d3 (r.1/1000%2) 1) 4 6))
noncomputable def ij (r:gg):List Value:=[aq (f9 (r.1%1000)).pos.line 0,aq 0 0,am (r.2.2.1+cond (d3 (r.1/1000%2) 1) 3 5)]
noncomputable def vf:List gg:=[(0,187,15,[])]
noncomputable def xz:List gg:=[(2057,511,186,[]),(2058,521,194,[]),(2059,531,202,[]),(2060,541,210,[]),(61,550,217,["found","place"]),(62,560,224,["last","out","place","given","mark"]),(63,573,231,["first","place","held","given","mark"]),(3064,588,239,[]),(65,594,244,["row"]),(66,603,251,["kind"]),(67,611,258,["row"]),(68,620,265,[]),(69,627,272,[]),(70,636,279,["t"]),(1071,644,286,[]),(72,650,291,[]),(73,658,298,[]),(74,666,305,[]),(75,674,312,["row"])]
noncomputable def vZ:List gg:=[(76,683,319,[])]
noncomputable def vc:List gg:=[(99,888,444,["rule"]),(100,899,451,["made"]),(101,908,458,[]),(102,915,465,[]),(103,923,472,[]),(104,931,479,["rows","told"]),(105,942,486,["key","spot","answer"]),(106,954,493,["key"]),(107,963,500,[]),(108,970,507,[]),(109,979,514,["told","rows","a","b"]),(110,992,521,[]),(111,1001,528,["parts"]),(112,1010,535,[]),(113,1017,542,["a","b"])]
noncomputable def wP:List gg:=[(114,1028,549,[]),(115,1038,556,["rows","a","b"]),(116,1050,563,[]),(117,1058,570,["part"]),(118,1068,577,["lax","part","spot"]),(119,1080,584,["key"]),(120,1089,591,["tab","parts","kind"]),(121,1101,598,["rows","a","b"]),(122,1113,605,["s"])]
noncomputable def xv:List gg:=[(1124,1125,612,[])]
noncomputable def wr:List gg:=[(127,1134,618,["owners","prop","hidden"]),(128,1144,625,["out","seen","waiting","at","row","more"])]
noncomputable def xj:List gg:=[(133,1350,779,[]),(134,1358,786,["place"])]
noncomputable def v9:List gg:=[(135,1366,793,["prop"]),(1136,1375,800,[]),(137,1381,805,[]),(138,1388,812,[]),(139,1395,819,["row","prop"]),(140,1406,826,[]),(1141,1414,833,[]),(142,1420,838,[]),(143,1429,845,["row","shape"]),(144,1440,852,[]),(1145,1450,859,[]),(146,1456,864,[])]
noncomputable def xk:List gg:=[(1148,1467,871,[]),(1149,1473,876,[])]
noncomputable def xf:List gg:=[(153,1509,900,["rule"]),(154,1519,907,["rows","name","units","wider","row","unit","chosen"]),(155,1533,914,["host","out","place","given","mark","kind"]),(1156,1548,921,[])]
noncomputable def wY:List gg:=[(158,1580,945,[]),(159,1587,952,[])]
noncomputable def wC:List gg:=[(1161,1596,959,[]),(162,1602,964,["place"]),(163,1610,971,["rest","tail"]),(164,1621,978,[]),(1165,1629,985,[]),(1166,1635,990,[]),(167,1641,995,["place"]),(168,1651,1002,["s","t"]),(169,1662,1009,["rest","whole","elems","elem","row"]),(1170,1676,1016,[]),(171,1682,1021,["tab","whole","pairs","elem"]),(172,1696,1028,["a","b"])]
noncomputable def vT:List gg:=[(174,1733,1054,[])]
noncomputable def vl:List gg:=[(177,1751,1062,["at","x"]),(178,1761,1069,["out","atom","whole"]),(1179,1771,1076,[]),(1180,1777,1081,[]),(181,1783,1086,[]),(182,1790,1093,["groups","at","group","made","one"]),(183,1804,1100,["parts","total","start","go","place","atoms","cut","last"]),(184,1820,1107,["heads","opts","rest","tails","ro","how","place","atoms","held","one"]),(185,1838,1114,["held","atom"]),(1186,1847,1121,[]),(187,1853,1126,["heads","opts","rest","tails","ro","more"]),(188,1867,1133,["top","length","mine","theirs","place"]),(189,1880,1140,["told","held","mask"]),(1190,1891,1147,[]),(1191,1897,1152,[]),(192,1903,1157,["made","atom"]),(1193,1913,1164,[]),(194,1919,1169,["parts","part"]),(1195,1929,1176,[])]
noncomputable def a7 (P:bX) (x:br) (t:Tok) (a:bp):DictEntry:=cm P x t (am a)
noncomputable def bB (P:bX) (x:br) (t:Tok) (v:Int):DictEntry:=cm P x t (aq v (t-1))
noncomputable def pf (t:Tok) (l:List br):Obj:=bU (l.zipIdx.map fun p=>ba p.1 (t+p.2))
noncomputable def N5 (P:bX):List DictEntry:=[cm P "__doc__" 166 bC,cm P "__package__" 167 bC,cm P "__loader__" 168 (bJ "__main__.__loader__#opaque"),cm P "__spec__" 169 bC,a7 P "__annotations__" 170 6,a7 P "__builtins__" 171 4,cm P "__file__" 173 (ba "/claim/cut.py" 172),cm P "__cached__" 174 bC]
noncomputable def O8:List Value:=[]
noncomputable def E9 (P:bX):List DictEntry:=vf.map (io P)++[bB P "U_ANY" 197 1,bB P "U_PROP" 199 3,bB P "U_ENUM" 201 10,bB P "U_VAR" 203 15,a7 P "KeepError" 234 39,a7 P "TooDeep" 263 60,a7 P "HostFault" 290 80]
noncomputable def KG:List Value:=vf.flatMap ij++[aq 9 0,aq 0 0,am 27,aq 14 0,aq 0 0,am 48,aq 19 0,aq 0 0,am 68]
noncomputable def Ii (P:bX):List DictEntry:=[a7 P "Notes" 344 120,bB P "Y_KEY" 348 1,bB P "Y_BOOL" 350 2,bB P "Y_STR" 352 3,bB P "Y_NUM" 354 4,bB P "Y_ENUM" 356 5,bB P "Y_UNION" 358 6,bB P "Y_INTER" 360 7,bB P "Y_OBJ" 362 8,bB P "Y_REF" 364 9,bB P "Y_PARAM" 366 10,bB P "Y_ARRAY" 368 11,bB P "Y_TUPLE" 370 12,bB P "Y_SIG" 372 13,bB P "Y_KEYOF" 374 14,bB P "Y_INDEX" 376 15,bB P "Y_COND" 378 16,bB P "Y_MAPPED" 380 17,bB P "Y_TPL" 382 18,bB P "Y_ALIAS" 384 19,bB P "ANY" 386 0,bB P "UNKNOWN" 388 1,bB P "NEVER" 390 2,bB P "VOID" 392 3,bB P "UNDEF" 394 4,bB P "NULLT" 396 5,bB P "STRING" 398 6,bB P "NUMBER" 400 7,bB P "FALSE_T" 402 8,bB P "TRUE_T" 404 9,bB P "OBJECTT" 406 10,bB P "EMPTY" 408 11,bB P "ERR" 410 13,bB P "FRESH_F" 412 14,bB P "FRESH_T" 414 15,bB P "P_OPT" 416 1,bB P "P_PRIVATE" 418 8,bB P "P_PROTECTED" 420 16,bB P "E_NEED" 422 0,bB P "E_OPT" 424 1,bB P "E_REST" 426 2,bB P "E_SPREAD" 428 3,bB P "MAX_UNION" 430 400,a7 P "FIRST_ROWS" 452 147,a7 P "LITERAL_ROWS" 453 148,a7 P "MARKED_ROWS" 454 149]
noncomputable def L8:List Value:=[aq 24 0,aq 0 0,am 88]
noncomputable def Iu (P:bX):List DictEntry:=[a7 P "TypeTable" 509 180]++xz.map (io P)
noncomputable def KZ:List Value:=[aq 86 0,aq 0 0,am 155]++xz.flatMap ij
noncomputable def MJ (P:bX):List DictEntry:=vZ.map (io P)++[bB P "R_ASSIGN" 694 1,bB P "R_COMPARE" 696 2,bB P "R_IDENT" 698 3,bB P "R_SUBTYPE" 700 4,bB P "RULE_MEET" 702 1,bB P "RULE_DEFERRED" 704 2,bB P "RULE_SIG" 706 3,bB P "RULE_LIST" 708 4,bB P "RULE_OBJECT" 710 5,bB P "RULE_CHOICE" 712 6,bB P "RULE_PLACES" 714 12,bB P "RULE_TELLS" 716 13,a7 P "VALUE_ROWS" 717 326,a7 P "LIST_ROWS_relbase" 718 327,a7 P "SHAPED_ROWS" 719 328,a7 P "DEFERRED_ROWS" 720 329,a7 P "OPEN_ROWS" 721 331,bB P "MAX_OPEN" 723 60,bB P "MOST_LOOKS" 725 20000,a7 P "RelRule" 794 376]
noncomputable def Lk:List Value:=vZ.flatMap ij++[aq 239 0,aq 0 0,am 337]
noncomputable def Pl (P:bX):List DictEntry:=[a7 P "Rel" 887 439]++vc.map (io P)
noncomputable def Ld:List Value:=[aq 255 0,aq 0 0,am 386]++vc.flatMap ij
noncomputable def Fj (P:bX):List DictEntry:=wP.map (io P)++xv.map (io P)++[a7 P "LIST_ROWS_shapes" 1133 617]++wr.map (io P)++[bB P "MOST_ROUNDS" 1161 200,bB P "MOST_SHAPES" 1163 40]
noncomputable def OK:List Value:=wP.flatMap ij++xv.flatMap ij++wr.flatMap ij
noncomputable def Ou (P:bX):List DictEntry:=[a7 P "Thin" 1349 774]++xj.map (io P)
noncomputable def IC:List Value:=[aq 536 0,aq 0 0,am 637]++xj.flatMap ij
noncomputable def Os (P:bX):List DictEntry:=v9.map (io P)++xk.map (io P)++[bB P "MAX_COMBOS" 1482 25,a7 P "TellsRule" 1508 897]++xf.map (io P)
noncomputable def HM:List Value:=v9.flatMap ij++xk.flatMap ij++[aq 680 0,aq 0 0,am 886]++xf.flatMap ij
noncomputable def P5 (P:bX):List DictEntry:=[a7 P "PlacesRule" 1579 942]++wY.map (io P)++wC.map (io P)
noncomputable def Jg:List Value:=[aq 725 0,aq 0 0,am 931]++wY.flatMap ij++wC.flatMap ij
noncomputable def F9 (P:bX):List DictEntry:=[a7 P "RellistListRule" 1732 1051]++vT.map (io P)++[a7 P "_law_points" 1750 1061]++vl.map (io P)
noncomputable def GS:List Value:=[aq 827 0,aq 0 0,am 1040]++vT.flatMap ij++vl.flatMap ij
noncomputable def C_:Value:=ba "__main__" 164
noncomputable def hr:Value:=ba "kindkeep.diags" 194
noncomputable def mU:Value:=ba "kindkeep.types" 345
noncomputable def jA:Value:=ba "kindkeep.relbase" 691
noncomputable def Oh:Value:=ba "kindkeep.shapes" 1131
noncomputable def me:Value:=ba "kindkeep.hosts" 1158
noncomputable def jZ:Value:=ba "kindkeep.relate" 1479
noncomputable def nC:Value:=ba "kindkeep.rellist" 1594
noncomputable def w9:Value:=ba "law_rh0138_01" 1740
noncomputable def HT (P:bX) (o:cl) (a:cl) (b:cl):List Obj:=
 [PySem.W.boot_o_0 P,PySem.W.boot_o_1 P,o,a,PySem.W.boot_o_4 P,PySem.W.boot_o_5 P,PySem.W.boot_o_6 P,PySem.W.boot_o_7 P,PySem.W.boot_o_8 P,PySem.W.boot_o_9 P,PySem.W.boot_o_10 P,bU [],b,ca "code" [ba "<module>" 182,ba "<module>" 183,ba "/claim/cut.py" 184,aq 1 0,aq 0 0,aq 0 0,aq 0 0,aq 0 0,am 11,cC ai,aq 181 0,am 12,bC,bC,bC,bC,aq 185 0,aq 1 0,ba "/claim/cut.py" 186],jB "frame" ah [ac (am 13),ac (am 3),ac (am 3),ah,ac (ba "__main__" 164),ah,ac (am 0)]]
noncomputable def LM (P:bX) (o:cl):List Obj:=fq f9 "" C_ vf++[bU [bn "Exception"],ca "builtin_function_or_method" [bJ "type.__prepare__",bn "type"],e4 (bn "dict") [cm P "__module__" 211 hr,cm P "__qualname__" 213 (ba "KeepError" 212),bB P "__firstlineno__" 215 9,a7 P "__init__" 224 36,a7 P "__static_attributes__" 227 37] 5,bU [],iQ [aq 11 0,aq 4 0,am 35],ca "code" [ba "KeepError" 206,ba "KeepError" 207,ba "/claim/cut.py" 208,aq 9 0,aq 0 0,aq 0 0,aq 0 0,aq 0 0,am 25,cC ai,aq 181 0,am 26,bC,bC,bC,bC,aq 209 0,aq 9 0,ba "/claim/cut.py" 210],jB "frame" ah [ac (am 27),ac (am 3),ac (am 24),ah,ac hr,ah,ac (am 0)],bU [ba "" 216]]++rY (j_ 6 0) "KeepError." 217 30 (am 29) hr []++[pf 225 ["number","text"],e4 (bn "dict") [cm P "__module__" 211 hr,bB P "__firstlineno__" 215 9,a7 P "__init__" 224 36,a7 P "__static_attributes__" 227 37,a7 P "__weakref__" 229 40,cm P "__doc__" 230 bC] 3,o,ca "getset_descriptor" [ba "__weakref__" 228,am 39,bJ "ExceptionGroup.__weakref__",bC],ca "super" [am 39,am 39,am 39],ca "builtin_function_or_method" [bJ "object.__init_subclass__",am 39],bU [am 39],ca "builtin_function_or_method" [bJ "type.__prepare__",bn "type"],e4 (bn "dict") [cm P "__module__" 242 hr,cm P "__qualname__" 244 (ba "TooDeep" 243),bB P "__firstlineno__" 246 14,a7 P "__init__" 257 57,a7 P "__static_attributes__" 260 58] 5,bU [],iQ [aq 16 0,aq 4 0,am 56],ca "code" [ba "TooDeep" 237,ba "TooDeep" 238,ba "/claim/cut.py" 239,aq 14 0,aq 0 0,aq 0 0,aq 0 0,aq 0 0,am 46,cC ai,aq 181 0,am 47,bC,bC,bC,bC,aq 240 0,aq 14 0,ba "/claim/cut.py" 241],jB "frame" ah [ac (am 48),ac (am 3),ac (am 45),ah,ac hr,ah,ac (am 0)],bU [aq 2589 247,ba "" 248]]++rY (j_ 7 0) "TooDeep." 249 51 (am 50) hr []++[pf 258 ["number","text"],e4 (bn "dict") [cm P "__module__" 242 hr,bB P "__firstlineno__" 246 14,a7 P "__init__" 257 57,a7 P "__static_attributes__" 260 58,cm P "__doc__" 261 bC] 2,j4 "TooDeep" [am 39] [am 60,am 39,bn "Exception",bn "BaseException",bn "object"] 59 "TooDeep" [] [ac (am 43),ah,ac (ba "TooDeep" 235),ac (ba "TooDeep" 243),ac (bJ "Exception.__new__"),ac (cC af)],ca "super" [am 60,am 60,am 60],ca "builtin_function_or_method" [bJ "object.__init_subclass__",am 60],bU [am 39],ca "builtin_function_or_method" [bJ "type.__prepare__",bn "type"],e4 (bn "dict") [cm P "__module__" 271 hr,cm P "__qualname__" 273 (ba "HostFault" 272),bB P "__firstlineno__" 275 19,a7 P "__init__" 284 77,a7 P "__static_attributes__" 287 78] 5,bU [],iQ [aq 21 0,aq 4 0,am 76],ca "code" [ba "HostFault" 266,ba "HostFault" 267,ba "/claim/cut.py" 268,aq 19 0,aq 0 0,aq 0 0,aq 0 0,aq 0 0,am 66,cC ai,aq 181 0,am 67,bC,bC,bC,bC,aq 269 0,aq 19 0,ba "/claim/cut.py" 270],jB "frame" ah [ac (am 68),ac (am 3),ac (am 65),ah,ac hr,ah,ac (am 0)],bU [ba "" 276]]++rY (j_ 8 0) "HostFault." 277 71 (am 70) hr []++[pf 285 ["number","text"],e4 (bn "dict") [cm P "__module__" 271 hr,bB P "__firstlineno__" 275 19,a7 P "__init__" 284 77,a7 P "__static_attributes__" 287 78,cm P "__doc__" 288 bC] 2,j4 "HostFault" [am 39] [am 80,am 39,bn "Exception",bn "BaseException",bn "object"] 79 "HostFault" [] [ac (am 63),ah,ac (ba "HostFault" 264),ac (ba "HostFault" 272),ac (bJ "Exception.__new__"),ac (cC af)],ca "super" [am 80,am 80,am 80],ca "builtin_function_or_method" [bJ "object.__init_subclass__",am 80]]
noncomputable def KX (P:bX):List Obj:=[bU [],ca "builtin_function_or_method" [bJ "type.__prepare__",bn "type"],e4 (bn "dict") [cm P "__module__" 298 hr,cm P "__qualname__" 300 (ba "Notes" 299),bB P "__firstlineno__" 302 24,a7 P "__init__" 309 96,a7 P "put" 318 103,a7 P "codes" 328 110,a7 P "clean" 335 117,a7 P "__static_attributes__" 337 118] 8,bU [],iQ [aq 26 0,aq 4 0,am 95,aq 29 0,aq 4 0,am 102,aq 32 0,aq 4 0,am 109,aq 38 0,aq 4 0,am 116],ca "code" [ba "Notes" 293,ba "Notes" 294,ba "/claim/cut.py" 295,aq 24 0,aq 0 0,aq 0 0,aq 0 0,aq 0 0,am 86,cC ai,aq 181 0,am 87,bC,bC,bC,bC,aq 296 0,aq 24 0,ba "/claim/cut.py" 297],jB "frame" ah [ac (am 88),ac (am 3),ac (am 85),ah,ac hr,ah,ac (am 0)]]++fq (j_ 9) "Notes." hr [(0,303,90,[]),(1,310,97,[]),(2,319,104,["found","code","at"]),(3,329,111,[])]++[bU [ba "rows" 336],e4 (bn "dict") [cm P "__module__" 298 hr,bB P "__firstlineno__" 302 24,a7 P "__init__" 309 96,a7 P "put" 318 103,a7 P "codes" 328 110,a7 P "clean" 335 117,a7 P "__static_attributes__" 337 118,a7 P "__dict__" 339 121,a7 P "__weakref__" 341 122,cm P "__doc__" 342 bC] 4,j4 "Notes" [bn "object"] [am 120,bn "object"] 119 "Notes" [] [ah,ah,ac (ba "Notes" 291),ac (ba "Notes" 299),ac (bJ "object.__new__"),ac (cC af)],ca "getset_descriptor" [ba "__dict__" 338,am 120,bJ "function.__dict__",bJ "function.__dict__#set"],ca "getset_descriptor" [ba "__weakref__" 340,am 120,bJ "ExceptionGroup.__weakref__",bC],ca "super" [am 120,am 120,am 120],ca "builtin_function_or_method" [bJ "object.__init_subclass__",am 120],bU [aq 1 347,ba "any" 431],bU [aq 1 347,ba "unknown" 432],bU [aq 1 347,ba "never" 433],bU [aq 1 347,ba "void" 434],bU [aq 1 347,ba "undefined" 435],bU [aq 1 347,ba "null" 436],bU [aq 1 347,ba "string" 437],bU [aq 1 347,ba "number" 438],bU [aq 2 349,aq 0 439,aq 0 440],bU [aq 2 349,aq 1 441,aq 0 442],bU [aq 1 347,ba "object" 443],bU [],bU [],bU [],bU [],bU [],bU [aq 8 361,am 136,am 137,am 138,am 139,am 140,aq 0 444],bU [aq 8 445,aq 9 446],bU [aq 6 357,am 142],bU [aq 1 347,ba "error" 447],bU [aq 2 349,aq 0 448,aq 1 449],bU [aq 2 349,aq 1 450,aq 1 451],bU [am 125,am 126,am 127,am 128,am 129,am 130,am 131,am 132,am 133,am 134,am 135,am 141,am 143,am 144,am 145,am 146],bU [aq 2 349,aq 3 351,aq 4 353,aq 5 355],bU [aq 2 349,aq 3 351,aq 4 353,aq 5 355,aq 8 361]]
noncomputable def I5 (P:bX):List Obj:=[bU [],ca "builtin_function_or_method" [bJ "type.__prepare__",bn "type"],e4 (bn "dict") [cm P "__module__" 462 mU,cm P "__qualname__" 464 (ba "TypeTable" 463),bB P "__firstlineno__" 466 86,a7 P "__init__" 474 163,a7 P "row" 482 170,a7 P "put" 491 177,a7 P "__static_attributes__" 502 178] 7,bU [],iQ [aq 88 0,aq 4 0,am 162,aq 102 0,aq 4 0,am 169,aq 105 0,aq 4 0,am 176],ca "code" [ba "TypeTable" 457,ba "TypeTable" 458,ba "/claim/cut.py" 459,aq 86 0,aq 0 0,aq 0 0,aq 0 0,aq 0 0,am 153,cC ai,aq 181 0,am 154,bC,bC,bC,bC,aq 460 0,aq 86 0,ba "/claim/cut.py" 461],jB "frame" ah [ac (am 155),ac (am 3),ac (am 152),ah,ac mU,ah,ac (am 0)]]++fq (j_ 56) "TypeTable." mU [(0,467,157,["row"]),(1,475,164,[]),(2,483,171,["t"])]++[pf 492 ["bounds","decls","defaults","index","names","origins","putting","renamed","rows","shaping"],e4 (bn "dict") [cm P "__module__" 462 mU,bB P "__firstlineno__" 466 86,a7 P "__init__" 474 163,a7 P "row" 482 170,a7 P "put" 491 177,a7 P "__static_attributes__" 502 178,a7 P "__dict__" 504 181,a7 P "__weakref__" 506 182,cm P "__doc__" 507 bC] 4,j4 "TypeTable" [bn "object"] [am 180,bn "object"] 179 "TypeTable" [] [ah,ah,ac (ba "TypeTable" 455),ac (ba "TypeTable" 463),ac (bJ "object.__new__"),ac (cC af)],ca "getset_descriptor" [ba "__dict__" 503,am 180,bJ "function.__dict__",bJ "function.__dict__#set"],ca "getset_descriptor" [ba "__weakref__" 505,am 180,bJ "ExceptionGroup.__weakref__",bC],ca "super" [am 180,am 180,am 180],ca "builtin_function_or_method" [bJ "object.__init_subclass__",am 180]]++fq f9 "" mU xz
noncomputable def PF (P:bX) (o:cl):List Obj:=fq f9 "" mU vZ++[bU [aq 1 347,aq 2 349,aq 3 351,aq 4 353,aq 5 355],bU [aq 11 367,aq 12 369],bU [aq 8 361,aq 9 363],bU [aq 10 365,aq 14 373,aq 15 375,aq 16 377,aq 17 379,aq 18 381,aq 19 383],bU [aq 6 357,aq 7 359],bU [aq 6 357,aq 7 359,aq 10 365,aq 14 373,aq 15 375,aq 16 377,aq 17 379,aq 18 381,aq 19 383],bU [],ca "builtin_function_or_method" [bJ "type.__prepare__",bn "type"],e4 (bn "dict") [cm P "__module__" 733 jA,cm P "__qualname__" 735 (ba "RelRule" 734),bB P "__firstlineno__" 737 239,a7 P "holds" 747 345,a7 P "loose" 757 352,a7 P "sig" 767 359,a7 P "blank" 776 366,a7 P "tells" 786 373,a7 P "__static_attributes__" 787 374] 9,bU [],iQ [aq 241 0,aq 4 0,am 344,aq 244 0,aq 4 0,am 351,aq 247 0,aq 4 0,am 358,aq 250 0,aq 4 0,am 365,aq 253 0,aq 4 0,am 372],ca "code" [ba "RelRule" 728,ba "RelRule" 729,ba "/claim/cut.py" 730,aq 239 0,aq 0 0,aq 0 0,aq 0 0,aq 0 0,am 335,cC ai,aq 181 0,am 336,bC,bC,bC,bC,aq 731 0,aq 239 0,ba "/claim/cut.py" 732],jB "frame" ah [ac (am 337),ac (am 3),ac (am 334),ah,ac jA,ah,ac (am 0)]]++fq (j_ 97) "RelRule." jA [(0,738,339,[]),(1,748,346,[]),(2,758,353,[]),(3,768,360,[]),(4,777,367,[])]++[bU [],e4 (bn "dict") [cm P "__module__" 733 jA,bB P "__firstlineno__" 737 239,a7 P "holds" 747 345,a7 P "loose" 757 352,a7 P "sig" 767 359,a7 P "blank" 776 366,a7 P "tells" 786 373,a7 P "__static_attributes__" 787 374,a7 P "__dict__" 789 377,a7 P "__weakref__" 791 378,cm P "__doc__" 792 bC] 4,o,ca "getset_descriptor" [ba "__dict__" 788,am 376,bJ "function.__dict__",bJ "function.__dict__#set"],ca "getset_descriptor" [ba "__weakref__" 790,am 376,bJ "ExceptionGroup.__weakref__",bC],ca "super" [am 376,am 376,am 376],ca "builtin_function_or_method" [bJ "object.__init_subclass__",am 376]]
noncomputable def Jy (P:bX):List Obj:=[bU [],ca "builtin_function_or_method" [bJ "type.__prepare__",bn "type"],e4 (bn "dict") [cm P "__module__" 802 jA,cm P "__qualname__" 804 (ba "Rel" 803),bB P "__firstlineno__" 806 255,a7 P "__init__" 815 394,a7 P "ask" 824 401,a7 P "note" 832 408,a7 P "same" 841 415,a7 P "mark" 848 422,a7 P "back" 856 429,a7 P "infer_sig" 865 436,a7 P "__static_attributes__" 880 437] 11,bU [],iQ [aq 257 0,aq 4 0,am 393,aq 273 0,aq 4 0,am 400,aq 276 0,aq 4 0,am 407,aq 280 0,aq 4 0,am 414,aq 283 0,aq 4 0,am 421,aq 286 0,aq 4 0,am 428,aq 289 0,aq 4 0,am 435],ca "code" [ba "Rel" 797,ba "Rel" 798,ba "/claim/cut.py" 799,aq 255 0,aq 0 0,aq 0 0,aq 0 0,aq 0 0,am 384,cC ai,aq 181 0,am 385,bC,bC,bC,bC,aq 800 0,aq 255 0,ba "/claim/cut.py" 801],jB "frame" ah [ac (am 386),ac (am 3),ac (am 383),ah,ac jA,ah,ac (am 0)]]++fq (j_ 98) "Rel." jA [(0,807,388,[]),(1,816,395,[]),(2,825,402,[]),(3,833,409,[]),(4,842,416,[]),(5,849,423,[]),(6,857,430,[])]++[pf 866 ["assumed","at","deep","host","known","looks","missing","mode","notes","road","rules","telling","trail","twin"],e4 (bn "dict") [cm P "__module__" 802 jA,bB P "__firstlineno__" 806 255,a7 P "__init__" 815 394,a7 P "ask" 824 401,a7 P "note" 832 408,a7 P "same" 841 415,a7 P "mark" 848 422,a7 P "back" 856 429,a7 P "infer_sig" 865 436,a7 P "__static_attributes__" 880 437,a7 P "__dict__" 882 440,a7 P "__weakref__" 884 441,cm P "__doc__" 885 bC] 4,j4 "Rel" [bn "object"] [am 439,bn "object"] 438 "Rel" [] [ah,ah,ac (ba "Rel" 795),ac (ba "Rel" 803),ac (bJ "object.__new__"),ac (cC af)],ca "getset_descriptor" [ba "__dict__" 881,am 439,bJ "function.__dict__",bJ "function.__dict__#set"],ca "getset_descriptor" [ba "__weakref__" 883,am 439,bJ "ExceptionGroup.__weakref__",bC],ca "super" [am 439,am 439,am 439],ca "builtin_function_or_method" [bJ "object.__init_subclass__",am 439]]++fq f9 "" jA vc
noncomputable def L0 (P:bX):List Obj:=fq f9 "" jA wP++fq f9 "" (ba "kindkeep.typeops" 1123) xv++[bU [aq 11 367,aq 12 369]]++fq f9 "" Oh wr
noncomputable def GD (P:bX):List Obj:=[bU [],ca "builtin_function_or_method" [bJ "type.__prepare__",bn "type"],e4 (bn "dict") [cm P "__module__" 1171 me,cm P "__qualname__" 1173 (ba "Thin" 1172),bB P "__firstlineno__" 1175 536,a7 P "__init__" 1183 645,a7 P "force" 1191 652,a7 P "put_deferred" 1199 659,a7 P "put_cond" 1208 666,a7 P "lay_row" 1217 673,a7 P "bound" 1225 680,a7 P "shape" 1233 687,a7 P "fits" 1242 694,a7 P "lies" 1251 701,a7 P "infers" 1261 708,a7 P "tpl_fits" 1270 715,a7 P "shape_fits" 1279 722,a7 P "put_in" 1288 729,a7 P "own_sig" 1297 736,a7 P "forget" 1304 743,a7 P "list_prop" 1313 750,a7 P "list_index" 1321 757,a7 P "elem_met" 1329 764,a7 P "error_class" 1336 771,a7 P "__static_attributes__" 1342 772] 23,bU [],iQ [aq 538 0,aq 4 0,am 644,aq 545 0,aq 4 0,am 651,aq 548 0,aq 4 0,am 658,aq 551 0,aq 4 0,am 665,aq 554 0,aq 4 0,am 672,aq 557 0,aq 4 0,am 679,aq 560 0,aq 4 0,am 686,aq 563 0,aq 4 0,am 693,aq 566 0,aq 4 0,am 700,aq 569 0,aq 4 0,am 707,aq 572 0,aq 4 0,am 714,aq 575 0,aq 4 0,am 721,aq 578 0,aq 4 0,am 728,aq 581 0,aq 4 0,am 735,aq 584 0,aq 4 0,am 742,aq 587 0,aq 4 0,am 749,aq 590 0,aq 4 0,am 756,aq 593 0,aq 4 0,am 763,aq 596 0,aq 4 0,am 770],ca "code" [ba "Thin" 1166,ba "Thin" 1167,ba "/claim/cut.py" 1168,aq 536 0,aq 0 0,aq 0 0,aq 0 0,aq 0 0,am 635,cC ai,aq 181 0,am 636,bC,bC,bC,bC,aq 1169 0,aq 536 0,ba "/claim/cut.py" 1170],jB "frame" ah [ac (am 637),ac (am 3),ac (am 634),ah,ac me,ah,ac (am 0)]]++fq (j_ 132) "Thin." me [(0,1176,639,[]),(1,1184,646,[]),(2,1192,653,[]),(3,1200,660,[]),(4,1209,667,[]),(5,1218,674,[]),(6,1226,681,[]),(7,1234,688,[]),(8,1243,695,[]),(9,1252,702,[]),(10,1262,709,[]),(11,1271,716,[]),(12,1280,723,[]),(13,1289,730,[]),(14,1298,737,[]),(15,1305,744,[]),(16,1314,751,[]),(17,1322,758,[]),(18,1330,765,[])]++[pf 1337 ["deep","lib","most_deep","most_rounds","tab"],e4 (bn "dict") [cm P "__module__" 1171 me,bB P "__firstlineno__" 1175 536,a7 P "__init__" 1183 645,a7 P "force" 1191 652,a7 P "put_deferred" 1199 659,a7 P "put_cond" 1208 666,a7 P "lay_row" 1217 673,a7 P "bound" 1225 680,a7 P "shape" 1233 687,a7 P "fits" 1242 694,a7 P "lies" 1251 701,a7 P "infers" 1261 708,a7 P "tpl_fits" 1270 715,a7 P "shape_fits" 1279 722,a7 P "put_in" 1288 729,a7 P "own_sig" 1297 736,a7 P "forget" 1304 743,a7 P "list_prop" 1313 750,a7 P "list_index" 1321 757,a7 P "elem_met" 1329 764,a7 P "error_class" 1336 771,a7 P "__static_attributes__" 1342 772,a7 P "__dict__" 1344 775,a7 P "__weakref__" 1346 776,cm P "__doc__" 1347 bC] 4,j4 "Thin" [bn "object"] [am 774,bn "object"] 773 "Thin" [] [ah,ah,ac (ba "Thin" 1164),ac (ba "Thin" 1172),ac (bJ "object.__new__"),ac (cC af)],ca "getset_descriptor" [ba "__dict__" 1343,am 774,bJ "function.__dict__",bJ "function.__dict__#set"],ca "getset_descriptor" [ba "__weakref__" 1345,am 774,bJ "ExceptionGroup.__weakref__",bC],ca "super" [am 774,am 774,am 774],ca "builtin_function_or_method" [bJ "object.__init_subclass__",am 774]]++fq f9 "" me xj
noncomputable def Oy (P:bX):List Obj:=fq f9 "" me v9++fq f9 "" (ba "kindkeep.excess" 1465) xk++[bU [am 376],ca "builtin_function_or_method" [bJ "type.__prepare__",bn "type"],e4 (bn "dict") [cm P "__module__" 1490 jZ,cm P "__qualname__" 1492 (ba "TellsRule" 1491),bB P "__firstlineno__" 1494 680,a7 P "tells" 1504 894,a7 P "__static_attributes__" 1505 895] 5,bU [],iQ [aq 682 0,aq 4 0,am 893],ca "code" [ba "TellsRule" 1485,ba "TellsRule" 1486,ba "/claim/cut.py" 1487,aq 680 0,aq 0 0,aq 0 0,aq 0 0,aq 0 0,am 884,cC ai,aq 181 0,am 885,bC,bC,bC,bC,aq 1488 0,aq 680 0,ba "/claim/cut.py" 1489],jB "frame" ah [ac (am 886),ac (am 3),ac (am 883),ah,ac jZ,ah,ac (am 0)]]++fq (j_ 152) "TellsRule." jZ [(0,1495,888,[])]++[bU [],e4 (bn "dict") [cm P "__module__" 1490 jZ,bB P "__firstlineno__" 1494 680,a7 P "tells" 1504 894,a7 P "__static_attributes__" 1505 895,cm P "__doc__" 1506 bC] 2,j4 "TellsRule" [am 376] [am 897,am 376,bn "object"] 896 "TellsRule" [] [ac (am 881),ah,ac (ba "TellsRule" 1483),ac (ba "TellsRule" 1491),ac (bJ "object.__new__"),ac (cC af)],ca "super" [am 897,am 897,am 897],ca "builtin_function_or_method" [bJ "object.__init_subclass__",am 897]]++fq f9 "" jZ xf
noncomputable def My (P:bX):List Obj:=[bU [am 376],ca "builtin_function_or_method" [bJ "type.__prepare__",bn "type"],e4 (bn "dict") [cm P "__module__" 1561 jZ,cm P "__qualname__" 1563 (ba "PlacesRule" 1562),bB P "__firstlineno__" 1565 725,a7 P "holds" 1575 939,a7 P "__static_attributes__" 1576 940] 5,bU [],iQ [aq 727 0,aq 4 0,am 938],ca "code" [ba "PlacesRule" 1556,ba "PlacesRule" 1557,ba "/claim/cut.py" 1558,aq 725 0,aq 0 0,aq 0 0,aq 0 0,aq 0 0,am 929,cC ai,aq 181 0,am 930,bC,bC,bC,bC,aq 1559 0,aq 725 0,ba "/claim/cut.py" 1560],jB "frame" ah [ac (am 931),ac (am 3),ac (am 928),ah,ac jZ,ah,ac (am 0)]]++fq (j_ 157) "PlacesRule." jZ [(0,1566,933,[])]++[bU [],e4 (bn "dict") [cm P "__module__" 1561 jZ,bB P "__firstlineno__" 1565 725,a7 P "holds" 1575 939,a7 P "__static_attributes__" 1576 940,cm P "__doc__" 1577 bC] 2,j4 "PlacesRule" [am 376] [am 942,am 376,bn "object"] 941 "PlacesRule" [] [ac (am 926),ah,ac (ba "PlacesRule" 1554),ac (ba "PlacesRule" 1562),ac (bJ "object.__new__"),ac (cC af)],ca "super" [am 942,am 942,am 942],ca "builtin_function_or_method" [bJ "object.__init_subclass__",am 942]]++fq f9 "" jZ wY++fq f9 "" nC wC
noncomputable def J8 (P:bX):List Obj:=[bU [am 376],ca "builtin_function_or_method" [bJ "type.__prepare__",bn "type"],e4 (bn "dict") [cm P "__module__" 1714 nC,cm P "__qualname__" 1716 (ba "RellistListRule" 1715),bB P "__firstlineno__" 1718 827,a7 P "holds" 1728 1048,a7 P "__static_attributes__" 1729 1049] 5,bU [],iQ [aq 829 0,aq 4 0,am 1047],ca "code" [ba "RellistListRule" 1709,ba "RellistListRule" 1710,ba "/claim/cut.py" 1711,aq 827 0,aq 0 0,aq 0 0,aq 0 0,aq 0 0,am 1038,cC ai,aq 181 0,am 1039,bC,bC,bC,bC,aq 1712 0,aq 827 0,ba "/claim/cut.py" 1713],jB "frame" ah [ac (am 1040),ac (am 3),ac (am 1037),ah,ac nC,ah,ac (am 0)]]++fq (j_ 173) "RellistListRule." nC [(0,1719,1042,[])]++[bU [],e4 (bn "dict") [cm P "__module__" 1714 nC,bB P "__firstlineno__" 1718 827,a7 P "holds" 1728 1048,a7 P "__static_attributes__" 1729 1049,cm P "__doc__" 1730 bC] 2,j4 "RellistListRule" [am 376] [am 1051,am 376,bn "object"] 1050 "RellistListRule" [] [ac (am 1035),ah,ac (ba "RellistListRule" 1707),ac (ba "RellistListRule" 1715),ac (bJ "object.__new__"),ac (cC af)],ca "super" [am 1051,am 1051,am 1051],ca "builtin_function_or_method" [bJ "object.__init_subclass__",am 1051]]++fq f9 "" nC vT++[bU [aq 1 1742,aq 2 1743,aq 8 1744,aq 32 1745,aq 64 1746,aq 128 1747,aq 7 1748,aq 24 1749]]++fq f9 "" w9 vl
noncomputable def I8 (P:bX):List (List eT):=[N5 P,E9 P,Ii P,Iu P,MJ P,Pl P,Fj P,Ou P,Os P,P5 P,F9 P]
noncomputable def Hj:List (List aV):=[O8,KG,L8,KZ,Lk,Ld,OK,IC,HM,Jg,GS]
noncomputable def Ll (P:bX) (r:List aV):List (List cl):=[LM P (j4 "KeepError" [bn "Exception"] [am 39,bn "Exception",bn "BaseException",bn "object"] 38 "KeepError" [am 60,am 80] [ac (am 22),ah,ac (ba "KeepError" 204),ac (ba "KeepError" 212),ac (bJ "Exception.__new__"),ac (cC af)]),KX P,I5 P,PF P (j4 "RelRule" [bn "object"] [am 376,bn "object"] 375 "RelRule" r [ah,ah,ac (ba "RelRule" 726),ac (ba "RelRule" 734),ac (bJ "object.__new__"),ac (cC af)]),Jy P,L0 P,GD P,Oy P,My P,J8 P]
noncomputable def jM (P:bX):Obj:=e4 bC [cm P "type.__subclasses__.Exception.0" 231 (aq 39 0),cm P "type.__subclasses__.Exception.n" 232 (aq 1 0)] 2
noncomputable def PG (P:bX) (k:Nat) (m:aV) (z:Nat):Obj:=e4 (bn "dict") (cm P "__name__" 165 m::((I8 P).take (k+1)).flatten) z
noncomputable def CV (P:bX) (k:Nat) (o:cl) (m:aV) (z:Nat) (r:List aV):List Obj:=HT P o (PG P k m z) (iQ ((Hj.take (k+1)).flatten))++((Ll P r).take k).flatten
noncomputable def yV:List Value:=[am 897,am 942,am 1051]
noncomputable def O_ (P:bX):List Obj:=CV P 10 (jM P) w9 195 (yV.take 3)
noncomputable def jY (w:bZ) (os:ew) (k:Nat) (o:cl) (m:aV) (z:Nat) (r:Nat) (n t:Nat):SharedT:=⟨AU 12 (CV w.params k o m z (yV.take r)),n,{},Array.mk [],{},t,os⟩
noncomputable def sC (w:bZ) (os:ew):SharedT:=jY w os 0 (e4 bC [] 0) C_ 9 0 15 187
noncomputable def CP (w:bZ) (os:ew):SharedT:=jY w os 1 (jM w.params) hr 17 0 83 291
noncomputable def B8 (w:bZ) (os:ew):SharedT:=jY w os 2 (jM w.params) mU 63 0 150 455
noncomputable def zC (w:bZ) (os:ew):SharedT:=jY w os 3 (jM w.params) mU 83 0 319 683
noncomputable def Ac (w:bZ) (os:ew):SharedT:=jY w os 4 (jM w.params) jA 104 0 381 795
noncomputable def Bm (w:bZ) (os:ew):SharedT:=jY w os 5 (jM w.params) jA 120 0 549 1028
noncomputable def As (w:bZ) (os:ew):SharedT:=jY w os 6 (jM w.params) me 135 0 632 1164
noncomputable def y8 (w:bZ) (os:ew):SharedT:=jY w os 7 (jM w.params) me 138 0 793 1366
noncomputable def y7 (w:bZ) (os:ew):SharedT:=jY w os 8 (jM w.params) jZ 158 1 926 1554
noncomputable def AM (w:bZ) (os:ew):SharedT:=jY w os 9 (jM w.params) nC 173 2 1035 1707
noncomputable def rN (w:bZ) (os:ew):SharedT:=jY w os 10 (jM w.params) w9 195 3 1181 1935
noncomputable abbrev mw:Env:={scope:=aC.main.scope,locals:=mainNs,globals:=mainNs,cells:=[],code:=am 13,frame:=ac 14}
noncomputable abbrev r7:List Stmt:=behindTheImports aC
noncomputable abbrev jq:Code:=.body r7 mw
noncomputable abbrev nj:Option Value:=ac (am 6)
noncomputable def vD:List Stmt:=(aC.main.body.drop 0).take 9
noncomputable def vM:List Stmt:=(aC.main.body.drop 9).take 47
noncomputable def wH:List Stmt:=(aC.main.body.drop 56).take 20
noncomputable def wz:List Stmt:=(aC.main.body.drop 76).take 22
noncomputable def xI:List Stmt:=(aC.main.body.drop 98).take 16
noncomputable def vj:List Stmt:=(aC.main.body.drop 114).take 18
noncomputable def v5:List Stmt:=(aC.main.body.drop 132).take 3
noncomputable def wm:List Stmt:=(aC.main.body.drop 135).take 22
noncomputable def vI:List Stmt:=(aC.main.body.drop 157).take 16
noncomputable def xa:List Stmt:=(aC.main.body.drop 173).take 23
def jr (w:bZ) (c:List di) (f:Nat) (S T:jk) (p q:Pos):Prop:=segRunT pK aC w 11 nj 1 f S (piecesOf c mw jq p [og hf])=ac (h6,T,jq,q)
theorem kM {w:bZ} {c:List di} {f:Nat} {S T:jk} {p q:Pos} (h:Tw Tv aC w 11 nj 1 f S (piecesOf c mw jq p [og hf])=ac (h6,T,jq,q)):jr w c f S T p q:=by
 unfold jr;rw[T7,QJ];exact h
theorem HO (w:bZ) (os:ew):jr w vD 804 (sC w os) (CP w os) ⟨0,0,0,0⟩ ⟨19,0,23,24⟩:=kM (by kernel_rfl)
theorem Pw (w:bZ) (os:ew):jr w vM 852 (CP w os) (B8 w os) ⟨19,0,23,24⟩ ⟨85,0,85,11⟩:=kM (by kernel_rfl)
theorem PB (w:bZ) (os:ew):jr w wH 889 (B8 w os) (zC w os) ⟨85,0,85,11⟩ ⟨212,0,214,49⟩:=kM (by kernel_rfl)
theorem MI (w:bZ) (os:ew):jr w wz 626 (zC w os) (Ac w os) ⟨212,0,214,49⟩ ⟨239,0,254,39⟩:=kM (by kernel_rfl)
theorem KV (w:bZ) (os:ew):jr w xI 901 (Ac w os) (Bm w os) ⟨239,0,254,39⟩ ⟨410,0,423,39⟩:=kM (by kernel_rfl)
theorem Hs (w:bZ) (os:ew):jr w vj 447 (Bm w os) (As w os) ⟨410,0,423,39⟩ ⟨535,0,535,11⟩:=kM (by kernel_rfl)
theorem G0 (w:bZ) (os:ew):jr w v5 872 (As w os) (y8 w os) ⟨535,0,535,11⟩ ⟨602,0,608,22⟩:=kM (by kernel_rfl)
theorem Nj (w:bZ) (os:ew):jr w wm 814 (y8 w os) (y7 w os) ⟨602,0,608,22⟩ ⟨711,0,724,15⟩:=kM (by kernel_rfl)
theorem Gm (w:bZ) (os:ew):jr w vI 681 (y7 w os) (AM w os) ⟨711,0,724,15⟩ ⟨813,0,826,45⟩:=kM (by kernel_rfl)
theorem KF (w:bZ) (os:ew):jr w xa 891 (AM w os) (rN w os) ⟨813,0,826,45⟩ ⟨994,0,1027,45⟩:=kM (by kernel_rfl)
noncomputable def nz:List Str:=(["_wall","U_ANY","U_PROP","U_ENUM","U_VAR","KeepError","TooDeep","HostFault","Notes","Y_KEY","Y_BOOL","Y_STR","Y_NUM","Y_ENUM","Y_UNION","Y_INTER","Y_OBJ","Y_REF","Y_PARAM","Y_ARRAY","Y_TUPLE","Y_SIG","Y_KEYOF","Y_INDEX","Y_COND"]:List br)++(["Y_MAPPED","Y_TPL","Y_ALIAS","ANY","UNKNOWN","NEVER","VOID","UNDEF","NULLT","STRING","NUMBER","FALSE_T","TRUE_T","OBJECTT","EMPTY","ERR","FRESH_F","FRESH_T","P_OPT","P_PRIVATE","P_PROTECTED","E_NEED","E_OPT","E_REST","E_SPREAD"]:List br)++(["MAX_UNION","FIRST_ROWS","LITERAL_ROWS","MARKED_ROWS","TypeTable","str_type","num_type","bool_type","array_type","last_mark","needed_to_last","one_rest","tuple_type","parts_of","whole_of_row","regular_twin","join_bools","stays_beside","top_of","union","add_undef","is_literal","is_unit","is_fresh","regular_one"]:List br)++(["R_ASSIGN","R_COMPARE","R_IDENT","R_SUBTYPE","RULE_MEET","RULE_DEFERRED","RULE_SIG","RULE_LIST","RULE_OBJECT","RULE_CHOICE","RULE_PLACES","RULE_TELLS","VALUE_ROWS","LIST_ROWS_relbase","SHAPED_ROWS","DEFERRED_ROWS","OPEN_ROWS","MAX_OPEN","MOST_LOOKS","RelRule","Rel","by_rule","silent_with","twin_of","cut_back"]:List br)++(["settled","ask_kinds","relbase_kept","close_trail","tells","taken_wider","simple_related","tops_related","unknown_told","is_numeric_enum","values_related","number_to_enum","structured","rule_for","from_union","some_part","lay_again","to_union","same_kind","each_in","all_units","LIST_ROWS_shapes","hidden_apart","final_parts","MOST_ROUNDS"]:List br)++(["MOST_SHAPES","Thin","elem_read","told_places","find_prop","is_digits","place_of","is_number_name","prop_row","read_type","late_place","list_read","index_read","part_type","prop_type","tuple_at","is_tag","tells_apart","MAX_COMBOS","TellsRule","relate_told_apart","all_choices","split_places","by_places","PlacesRule"]:List br)++(["install_rel_tells","install_rel_places","least_length","open_place","elem_for","lengths_fit","place_pairs","is_unsettled","by_marks","pairs_hold","spreads_laid","tuples_hold","into_array","tuple_related","RellistListRule","install_rel_lists","_law_points","_law_take","_law_plain","_law_kind","_law_source","_law_flat","_law_with","_law_cover","_law_turn"]:List br)++(["_law_mask","_law_bits","_law_slots","_law_lies","_law_reads","_law_ways","_law_takers","_law_union","_law_list","_law_parts"]:List br)
theorem II:r7=vD++(vM++(wH++(wz++(xI++(vj++(v5++(wm++(vI++(xa++[]))))))))):=by kernel_rfl
theorem NE (w:bZ) (os:ew):topGo pK aC w 11 nj 12 ⟨oc w.params,Array.mk [],ET,EX,os⟩ (topStub aC)=ac ((sC w os).abs,⟨denote pK jq,jq,hf,[og hf]⟩):=by
 rw[T4,QJ,T6];kernel_rfl
theorem IT (w:bZ) (os:ew):segRun pK aC w 11 nj 1 1 (sC w os).abs (blockOf r7 mw jq hf [og hf])=ac (h6,(sC w os).abs,jq,hf):=by kernel_rfl
theorem LN (w:bZ) (os:ew):topRun pK aC w 11 nj 3 (rN w os).abs (restOf [] mw jq ⟨994,0,1027,45⟩ [og hf])=ac (rN w os).abs:=by kernel_rfl
theorem O5 (w:bZ) (os:ew):topRun pK aC w 11 nj (12+(1+(804+(852+(889+(626+(901+(447+(872+(814+(681+(891+3)))))))))))) ⟨oc w.params,Array.mk [],ET,EX,os⟩ (topStub aC)=ac (rN w os).abs:=by
 refine go_top (NE w os) (piece_block (IT w os) ?_);rw[show restOf r7 mw jq hf [og hf]=restOf (vD++(vM++(wH++(wz++(xI++(vj++(v5++(wm++(vI++(xa++[])))))))))) mw jq hf [og hf] from congrArg (fun l=>restOf l mw jq hf [og hf]) II];refine lT (lS (HO w os)) ?_;refine lT (lS (Pw w os)) ?_;refine lT (lS (PB w os)) ?_;refine lT (lS (MI w os)) ?_;refine lT (lS (KV w os)) ?_;refine lT (lS (Hs w os)) ?_;refine lT (lS (G0 w os)) ?_;refine lT (lS (Nj w os)) ?_;refine lT (lS (Gm w os)) ?_;refine lT (lS (KF w os)) ?_;exact LN w os
noncomputable def cO (P:bX):Heap:=absHeap (AU 12 (O_ P)) 1181 {}
noncomputable def y':Nat:=1935
noncomputable abbrev lh:Program:={aC with main:={aC.main with body:=[f9 195]}}
theorem Kd:∀w:bZ,(fencedOpening pK aC w 20000).map (fun s=>(s.heap,s.gens,s.drawn,s.toks))=ac (oc w.params,Array.mk [],ET,EX):=
 boot_open (by kernel_rfl) (by decide) (fun s=>rfl)
theorem PP (w:bZ):((oc w.params).isNs n_&&(Array.mk []:Array GenState).size==0,(oc w.params).objs.size,(oc w.params).nsMap n_ "__annotations__")=(af,11,nj):=by kernel_rfl
noncomputable abbrev B9 (w:bZ) (os:ew):Shared:=⟨cO w.params,Array.mk [],{},y',os⟩
theorem Jk (w:bZ):staticsOk (Em aC.main.body) (oc w.params) (cO w.params)=true:=by kernel_rfl
theorem HS (w:bZ):namesBound aC (cO w.params)=true:=by kernel_rfl
theorem Hw (w:bZ) (os:ew):gensDone (B9 w os)=true:=by kernel_rfl
theorem Ge (w:bZ):laidKept (oc w.params) (cO w.params)=true:=by kernel_rfl
theorem LK (w:bZ) (os:ew):openSeen lh nz (Em aC.main.body) (fun _=>af) af (B9 w os)=openGood lh nz:=by
 rw[T1];kernel_rfl
theorem J':LeftO aC lh nz (fun _=>af) (fun s=>s.heap) (fun w=>cO w.params) 20000:=
 LeftO.of_pieces (H₁:=cO) (gs₁:=Array.mk []) (d₁:={}) (k₁:=y') (M:=12+(1+(804+(852+(889+(626+(901+(447+(872+(814+(681+(891+3)))))))))))) Kd PP O5 (by decide) (fun w=>funext fun o=>by
  rw[Jk w,HS w,Hw w o,Ge w,LK w o];rfl)
noncomputable abbrev cY:OpenLaw:=Dm
noncomputable def kc:DefRec:=match f9 195 with|.FunctionDef n a b _ _ _ s _ _ p=>⟨n,a,b,s,p⟩|_=>⟨"",⟨[],[],ah,[],[],ah,[]⟩,[],⟨k4,[],ai,ai,[]⟩,hf⟩
theorem PJ:defOf lh cY.row.name=ac (kc,[]):=by kernel_rfl
theorem FV:cY.row.prog.theDef cY.row.name=ac (kc.params,kc.body,kc.scope):=by kernel_rfl
theorem Il:kwWritten? kc.params.kwonlyargs kc.params.kw_defaults=ac []:=by kernel_rfl
theorem Ia:chainsOk lh=true:=by kernel_rfl
theorem Pn:opensWell cY.row.prog=true:=by kernel_rfl
theorem GL:(frees cY.row.toRowW&&cY.row.within.isEmpty)=true:=by kernel_rfl
theorem P6:aC.tablesWhole=true:=by
 unfold Program.tablesWhole TablesWhole.wProgram TablesWhole.holds;rw[T0,T3];kernel_rfl
theorem Ho:cY.row.prog.bare:=⟨rfl,rfl,rfl,rfl,rfl,P6⟩
theorem FR:cY.row.toRowW.promised:=⟨[uF []],by decide+kernel,by decide+kernel⟩
def sS (w:bZ) (h:fT):Prop:=∀b o,(cO w.params).get? b=ac o→h.get? b=ac o
theorem Pm (a:cY.row.wellSaid=af) (c:WalkO lh nz (fun _ _=>True) sS cY.row.toRowW kc [] (fun f vs=>gN f vs)):cY.row.Holds:=
 holds_open (r:=cY.row) (q:=lh) (loose:=nz) (Xt:=fun _=>af) (XP:=fun _ _=>True) (Yf:=fun s=>s.heap) (Ya:=fun w=>cO w.params) (YP:=sS) (N:=20000)
  J' (fun w s e b o q=>by rw[show s.heap=cO w.params from e];exact q) (fun w h d x k b o q=>k _ _ (x b o q)) (fun _ _=>trivial) (fun _ _ _ _ _=>trivial)
  PJ FV Il (fun s _=>recFacts_nil rfl) rfl a (by rw[Ia,Pn,GL];rfl) Ho FR c
theorem N7:namesResolve cY.row.prog=true:=by rewrite [Tz];kernel_rfl
theorem Ir:(cY.row.prog.boundNames.all fun n=> !worldNames.contains n)=true:=by rewrite [QI];kernel_rfl
theorem Ga:(namesMeet cY.row.prog cY.row.prog.main.body fun x n=>attrL n)=true:=by rewrite [xQ];kernel_rfl
theorem HA:defStands cY.about cY.above=true:=by rewrite [Tx];kernel_rfl
theorem Kc:cY.namesIt=true:=by rewrite [T2];kernel_rfl
theorem Ng:(cY.bound'.all fun n=> !builtinNamed n||cY.about==[n]|| !cY.reads n)=true:=by rewrite [QM];kernel_rfl
theorem PQ:noRoadLSs {strict:=af,foot:=ac cY.bound',writes:=cY.writes,may:=cY.may} cY.footing=true:=by rewrite [QK,QM];kernel_rfl
theorem P':noClassBlock cY.prog cY.footing=true:=by rewrite [TZ];kernel_rfl
theorem ID:(namesMeet cY.prog cY.above fun x n=> !cY.own.contains n)=true:=by rewrite [xQ,xR];kernel_rfl
theorem E6:cY.row.solid=true:=by rewrite [T5];kernel_rfl
theorem Ms:cY.footing.all footLine=true:=by kernel_rfl
theorem LG:(cY.own.all fun n=> !builtinNamed n)=true:=by rewrite [xR];kernel_rfl
theorem Js:noRoadLSs {strict:= !(Em cY.row.prog.main.body).all cThrough.contains,foot:=ah,bare:=(["vars","dir","locals"]:List br).filter (readsOut cY.row.prog cY.row.prog.main.body)} cY.row.prog.main.body=true:=by rewrite [QK];kernel_rfl
theorem K6:RA cY=true:=by
 unfold RA OpenRow.wellSaid OpenRow.partSaid looksOpen
 repeat refine look_both ?_ ?_
 ·kernel_rfl
 ·kernel_rfl
 ·kernel_rfl
 ·exact N7
 ·exact Ir
 ·exact Js
 ·exact Ga
 ·kernel_rfl
 ·kernel_rfl
 ·kernel_rfl
 ·kernel_rfl
 ·kernel_rfl
 ·kernel_rfl
 ·exact E6
 ·kernel_rfl
 ·kernel_rfl
 ·kernel_rfl
 ·kernel_rfl
 ·kernel_rfl
 ·kernel_rfl
 ·rewrite [QI];kernel_rfl
 ·kernel_rfl
 ·kernel_rfl
 ·exact Ms
 ·exact P'
 ·kernel_rfl
 ·kernel_rfl
 ·exact PQ
 ·exact HA
 ·exact Kc
 ·kernel_rfl
 ·exact Ng
 ·kernel_rfl
 ·kernel_rfl
 ·rewrite [xQ];kernel_rfl
 ·rewrite [xR];kernel_rfl
 ·rewrite [xR];kernel_rfl
 ·exact LG
 ·exact ID
 ·rewrite [xQ];kernel_rfl
theorem OX (c:WalkO lh nz (fun _ _=>True) sS cY.row.toRowW kc [] (fun f vs=>gN f vs)):PySem.Challenge.rw_rh0138_01.Holds:=
 holds_law K6 fun k=>Pm k c
end
inductive hu where
 |n (k:Nat)
 |v (i:Nat)
 |a (x y:hu)
 |m (k:Nat) (x:hu)
 |w (x:hu) (k:Nat)
inductive i2 where
 |g (k:Nat) (l r:hu)
 |c (k:Nat) (l r:hu) (t:i2)
noncomputable def hu.d (c:List Nat) (e:hu):Nat:=hu.rec (fun k=>k) (fun i=>c.getD i 0) (fun _ _ x y=>x+y) (fun k _ x=>k*x) (fun _ k x=>x*k) e
def i2.d (c:List Nat) (t:i2):Prop:=i2.rec (fun _ l r=>l.d c≤r.d c) (fun _ l r _ t=>l.d c≤r.d c→t) t
noncomputable def kQ (x:List Nat):List Nat→List Nat:=yC (fun y=>y) (fun a r i y=>cn y (a::r) fun b s=>(a+b)::i s) x
noncomputable def qZ (x:List Nat):List Nat→Bool:=yC (fun _=>af) (fun a r i y=>cn y (d3 a 0&&i []) fun b s=>fx a b&&i s) x
noncomputable def hu.cf (e:hu):List Nat:=hu.rec (fun k=>[k]) (fun i=>0::(cx i 0++[1])) (fun _ _ x y=>kQ x y) (fun k _ x=>x.map (k*·)) (fun _ k x=>x.map (k*·)) e
noncomputable def i2.ck (t:i2):List Nat→List Nat→Bool:=i2.rec (fun k l r R L=>fx 1 k&&qZ (kQ (l.cf.map (k*·)) R) (kQ (r.cf.map (k*·)) (kQ L [k-1]))) (fun k l r _ t R L=>t (kQ (r.cf.map (k*·)) R) (kQ (l.cf.map (k*·)) L)) t
noncomputable def iL (x:List Nat):List Nat→Nat:=yC (fun _=>0) (fun a r i c=>cn c 0 fun b s=>a*b+i s) x
theorem oz:∀{y c},iL (kQ x y) c=iL x c+iL y c:=by
 induction x with
 |nil=>intro y c;exact(jI _).symm
 |cons a r i=>intro y c;cases y with
  |nil=>rfl
  |cons b s=>cases c with
   |nil=>rfl
   |cons e t=>exact(congrArg ((a+b)*e+·) i).trans (by rw[um,Nat.add_add_add_comm];rfl)
theorem oC:∀{c},iL (x.map (k*·)) c=k*iL x c:=by
 induction x with
 |nil=>intro c;rfl
 |cons a r i=>intro c;cases c with
  |nil=>rfl
  |cons e t=>exact(congrArg (k*a*e+·) i).trans (by rw[En,←EK];rfl)
theorem MQ:∀{y c},qZ x y=af→iL x c≤iL y c:=by
 induction x with
 |nil=>intro y c _;exact cA _
 |cons a r i=>intro y c h;cases y with
  |nil=>
   have h:=(fu ..).mp (show(d3 a 0&&qZ r [])=af from h);cases c with
   |nil=>exact bv _
   |cons e t=>exact a9 (by show a*e+iL r t=0;rw[jd h.1,Ev,jI];exact rx.mp (i (y:=[]) h.2))
  |cons b s=>
   have h:=(fu ..).mp (show(fx a b&&qZ r s)=af from h);cases c with
   |nil=>exact bv _
   |cons e t=>exact dd (pq _ (lM h.1)) (i h.2)
theorem GQ:∀{c:List Nat},iL (cx i 0++[1]) c=c.getD i 0:=by
 induction i with
 |zero=>intro c;cases c with
  |nil=>rfl
  |cons b s=>exact rv b
 |succ i I=>intro c;cases c with
  |nil=>rfl
  |cons b s=>exact(congrArg (·+iL (cx i 0++[1]) s) (Ev b)).trans ((jI _).trans I)
theorem hu.ok (e:hu):iL e.cf (1::c)=e.d c:=by
 induction e with
 |n k=>exact lR k
 |v i=>exact(jI _).trans GQ
 |a x y s t=>exact oz.trans (congr (congrArg _ s) t)
 |m k x h=>exact oC.trans (congrArg _ h)
 |w x k h=>exact oC.trans ((congrArg _ h).trans (Ez ..))
theorem i2.ok {c:List Nat} (t:i2):∀{R L},iL L (1::c)≤iL R (1::c)→t.ck R L=af→t.d c:=by
 induction t with
 |g k l r=>
  intro R L h e;have e:=(fu ..).mp (show(fx 1 k&&qZ (kQ (l.cf.map (k*·)) R) (kQ (r.cf.map (k*·)) (kQ L [k-1])))=af from e);have q:=MQ (c:=1::c) e.2;rw[oz,oz,oz,oC,oC,l.ok,r.ok] at q;have z:iL [k-1] (1::c)=k-1:=lR _;rw[z] at q;have q:k*l.d c≤k*r.d c+(k-1):=Nat.le_of_add_le_add_right (ao q (by rw[ev,f_ (k-1)];exact cj (dc h _) _));refine dC fun n=> ?_;have p:=ao (fh k n) q;rw[Ey] at p;exact Nat.not_succ_le_self _ (jg (Nat.le_of_add_le_add_left p) (Nat.sub_lt (lM e.1) pB))
 |c k l r t i=>
  intro R L h e x;exact i (by rw[oz,oz,oC,oC,l.ok,r.ok];exact dd (fh k x) h) e
theorem eM (c:List Nat) (t:i2) (h:t.ck [] []=af):t.d c:=t.ok (bv _) h
noncomputable def hu.b:hu:=.v 0
noncomputable def hu.f:hu:=.v 1
noncomputable def hu.g:hu:=.v 2
noncomputable def hu.j:hu:=.v 3
noncomputable def hu.l:hu:=.v 4
noncomputable def hu.o:hu:=.v 5
noncomputable def hu.p:hu:=.v 6
noncomputable def hu.q:hu:=.v 7
noncomputable def hu.r:hu:=.v 8
noncomputable def S9:hu:=.v 9
noncomputable def hu.n0:hu:=.n 0
noncomputable def hu.n1:hu:=.n 1
noncomputable def hu.n2:hu:=.n 2
theorem dN (t:i2) (h:t.ck [] []=af):t.d [a0]:=eM _ t h
theorem cD (t:i2) (h:t.ck [] []=af):t.d [a0,a1]:=eM _ t h
theorem b6 (t:i2) (h:t.ck [] []=af):t.d [a0,a1,a2]:=eM _ t h
theorem b8 (t:i2) (h:t.ck [] []=af):t.d [a0,a1,a2,a3]:=eM _ t h
theorem e6 (t:i2) (h:t.ck [] []=af):t.d [a0,a1,a2,a3,a]:=eM _ t h
theorem jR (t:i2) (h:t.ck [] []=af):t.d [a0,a1,a2,a3,a,A]:=eM _ t h
theorem lB (t:i2) (h:t.ck [] []=af):t.d [a0,a1,a2,a3,a,A,b]:=eM _ t h
theorem tf (t:i2) (h:t.ck [] []=af):t.d [a0,a1,a2,a3,a,A,b,c]:=eM _ t h
theorem qX (t:i2) (h:t.ck [] []=af):t.d [a0,a1,a2,a3,a,A,b,c,d]:=eM _ t h
theorem S6 (t:i2) (h:t.ck [] []=af):t.d [a0,a1,a2,a3,a,A,b,c,d,e]:=eM _ t h
abbrev aJ:= @if_pos
abbrev aL:= @if_neg
abbrev aS:= @congrArg
noncomputable abbrev aR:= @absurd
abbrev cu:= @decide_eq_true
abbrev cP:= @decide_eq_false
abbrev dB:= @of_decide_eq_true
abbrev k0:= @decide_eq_true_iff
abbrev iX:= @beq_self_eq_true
abbrev k3:= @exists_congr
abbrev c5:= @beq_eq_false_iff_ne
abbrev dL:= @beq_iff_eq
abbrev k5:= @bne_iff_ne
abbrev n7:= @decide_eq_decide
abbrev rl:= @of_decide_eq_false
abbrev n6:= @decide_eq_true_eq
abbrev uj:= @and_congr_right
universe u v
theorem aY {a b:Nat} (e:fx a b=af):a≤b:=lM e
theorem bl {a b c:Nat} (h:b≤c) (e:fx a b=af):a≤c:=ao (aY e) h
theorem aD {a b c:Nat} (h:a≤b) (e:fx b c=af):a≤c:=ao h (aY e)
@[elab_as_elim] theorem ak {α:Sort u} {motive:α→Prop} {a b:α} (h:a=b) (x:motive b):motive a:=h▸x
theorem tb {P:Prop} (h:∀G:Prop,(P→G)→G):P:=h P id
theorem iC {α:Type u} {x:α} {P:Prop} (h:ah=ac x):P:=nomatch h
theorem hU {P:Prop} (h:ai=af):P:=nomatch h
section
variable{P Q R S T U V W X:Prop} {G:Prop}
theorem fe (p:P) (q:Q) (r:R):P∧Q∧R:=⟨p,q,r⟩
theorem nD (p:P) (q:Q) (r:R) (s:S):P∧Q∧R∧S:=⟨p,q,r,s⟩
theorem kS (p:P) (q:Q) (r:R) (s:S) (t:T):P∧Q∧R∧S∧T:=⟨p,q,r,s,t⟩
theorem P7 (p:P) (q:Q) (r:R) (s:S) (t:T) (a:U):P∧Q∧R∧S∧T∧U:=⟨p,q,r,s,t,a⟩
theorem P3 (p:P) (q:Q) (r:R) (s:S) (t:T) (a:U) (b:V) (c:W):P∧Q∧R∧S∧T∧U∧V∧W:=⟨p,q,r,s,t,a,b,c⟩
theorem Cw (p:P) (q:Q) (r:R) (s:S) (t:T) (a:U) (b:V) (c:W) (d:X):P∧Q∧R∧S∧T∧U∧V∧W∧X:=⟨p,q,r,s,t,a,b,c,d⟩
theorem dM (h:P∧Q∧R) (q:P→Q→R→G):G:=q h.1 h.2.1 h.2.2
theorem iN (h:P∧Q∧R∧S) (q:P→Q→R→S→G):G:=q h.1 h.2.1 h.2.2.1 h.2.2.2
theorem i6 (h:P∧Q∧R∧S∧T) (q:P→Q→R→S→T→G):G:=q h.1 h.2.1 h.2.2.1 h.2.2.2.1 h.2.2.2.2
theorem Of (h:P∧Q∧R∧S∧T∧U) (q:P→Q→R→S→T→U→G):G:=q h.1 h.2.1 h.2.2.1 h.2.2.2.1 h.2.2.2.2.1 h.2.2.2.2.2
end
section
variable{α:Sort _} {P Q R S T U:α→Prop} {G:Prop}
theorem bd (j:α) (p:P j) (q:Q j):∃x,P x∧Q x:=⟨j,p,q⟩
theorem gX (j:α) (p:P j) (q:Q j) (r:R j):∃x,P x∧Q x∧R x:=⟨j,fe p q r⟩
theorem CZ (j:α) (p:P j) (q:Q j) (r:R j) (s:S j):∃x,P x∧Q x∧R x∧S x:=⟨j,nD p q r s⟩
theorem xC (j:α) (p:P j) (q:Q j) (r:R j) (s:S j) (t:T j):∃x,P x∧Q x∧R x∧S x∧T x:=⟨j,kS p q r s t⟩
theorem GK (j:α) (p:P j) (q:Q j) (r:R j) (s:S j) (t:T j) (a:U j):∃x,P x∧Q x∧R x∧S x∧T x∧U x:=⟨j,P7 p q r s t a⟩
theorem ay (h:∃x,P x∧Q x) (q:∀x,P x→Q x→G):G:=h.elim fun x h=>q x h.1 h.2
theorem eB (h:∃x,P x∧Q x∧R x) (q:∀x,P x→Q x→R x→G):G:=h.elim fun x h=>dM h (q x)
theorem qF (h:∃x,P x∧Q x∧R x∧S x) (q:∀x,P x→Q x→R x→S x→G):G:=h.elim fun x h=>iN h (q x)
theorem xo (h:∃x,P x∧Q x∧R x∧S x∧T x) (q:∀x,P x→Q x→R x→S x→T x→G):G:=h.elim fun x h=>i6 h (q x)
theorem GX (h:∃x,P x∧Q x∧R x∧S x∧T x∧U x) (q:∀x,P x→Q x→R x→S x→T x→U x→G):G:=h.elim fun x h=>Of h (q x)
end
section
variable{α:Sort _} {β:Sort _} {P Q R S T U:α→β→Prop} {G:Prop}
theorem o_ (j:α) (k:β) (p:P j k):∃x y,P x y:=⟨j,k,p⟩
theorem cL (j:α) (k:β) (p:P j k) (q:Q j k):∃x y,P x y∧Q x y:=⟨j,bd k p q⟩
theorem er (j:α) (k:β) (p:P j k) (q:Q j k) (r:R j k):∃x y,P x y∧Q x y∧R x y:=⟨j,gX k p q r⟩
theorem hK (j:α) (k:β) (p:P j k) (q:Q j k) (r:R j k) (s:S j k):∃x y,P x y∧Q x y∧R x y∧S x y:=⟨j,CZ k p q r s⟩
theorem Og (j:α) (k:β) (p:P j k) (q:Q j k) (r:R j k) (s:S j k) (t:T j k):∃x y,P x y∧Q x y∧R x y∧S x y∧T x y:=⟨j,xC k p q r s t⟩
theorem G8 (j:α) (k:β) (p:P j k) (q:Q j k) (r:R j k) (s:S j k) (t:T j k) (a:U j k):∃x y,P x y∧Q x y∧R x y∧S x y∧T x y∧U x y:=⟨j,GK k p q r s t a⟩
theorem oQ (h:∃x y,P x y) (q:∀x y,P x y→G):G:=h.elim fun x h=>h.elim (q x)
theorem bK (h:∃x y,P x y∧Q x y) (q:∀x y,P x y→Q x y→G):G:=h.elim fun x h=>ay h (q x)
theorem cE (h:∃x y,P x y∧Q x y∧R x y) (q:∀x y,P x y→Q x y→R x y→G):G:=h.elim fun x h=>eB h (q x)
theorem ia (h:∃x y,P x y∧Q x y∧R x y∧S x y) (q:∀x y,P x y→Q x y→R x y→S x y→G):G:=h.elim fun x h=>qF h (q x)
theorem B3 (h:∃x y,P x y∧Q x y∧R x y∧S x y∧T x y) (q:∀x y,P x y→Q x y→R x y→S x y→T x y→G):G:=h.elim fun x h=>xo h (q x)
theorem Aa (h:∃x y,P x y∧Q x y∧R x y∧S x y∧T x y∧U x y) (q:∀x y,P x y→Q x y→R x y→S x y→T x y→U x y→G):G:=h.elim fun x h=>GX h (q x)
end
section
variable{α:Sort _} {β:Sort _} {γ:Sort _} {P Q R S T U:α→β→γ→Prop} {G:Prop}
theorem AP (j:α) (k:β) (l:γ) (p:P j k l):∃x y z,P x y z:=⟨j,o_ k l p⟩
theorem iO (j:α) (k:β) (l:γ) (p:P j k l) (q:Q j k l):∃x y z,P x y z∧Q x y z:=⟨j,cL k l p q⟩
theorem mx (j:α) (k:β) (l:γ) (p:P j k l) (q:Q j k l) (r:R j k l):∃x y z,P x y z∧Q x y z∧R x y z:=⟨j,er k l p q r⟩
theorem Gn (j:α) (k:β) (l:γ) (p:P j k l) (q:Q j k l) (r:R j k l) (s:S j k l):∃x y z,P x y z∧Q x y z∧R x y z∧S x y z:=⟨j,hK k l p q r s⟩
theorem r2 (j:α) (k:β) (l:γ) (p:P j k l) (q:Q j k l) (r:R j k l) (s:S j k l) (t:T j k l):∃x y z,P x y z∧Q x y z∧R x y z∧S x y z∧T x y z:=⟨j,Og k l p q r s t⟩
theorem sB (j:α) (k:β) (l:γ) (p:P j k l) (q:Q j k l) (r:R j k l) (s:S j k l) (t:T j k l) (a:U j k l):∃x y z,P x y z∧Q x y z∧R x y z∧S x y z∧T x y z∧U x y z:=⟨j,G8 k l p q r s t a⟩
theorem Cg (h:∃x y z,P x y z) (q:∀x y z,P x y z→G):G:=h.elim fun x h=>oQ h (q x)
theorem hR (h:∃x y z,P x y z∧Q x y z) (q:∀x y z,P x y z→Q x y z→G):G:=h.elim fun x h=>bK h (q x)
theorem j9 (h:∃x y z,P x y z∧Q x y z∧R x y z) (q:∀x y z,P x y z→Q x y z→R x y z→G):G:=h.elim fun x h=>cE h (q x)
theorem uQ (h:∃x y z,P x y z∧Q x y z∧R x y z∧S x y z) (q:∀x y z,P x y z→Q x y z→R x y z→S x y z→G):G:=h.elim fun x h=>ia h (q x)
theorem wQ (h:∃x y z,P x y z∧Q x y z∧R x y z∧S x y z∧T x y z) (q:∀x y z,P x y z→Q x y z→R x y z→S x y z→T x y z→G):G:=h.elim fun x h=>B3 h (q x)
theorem lI (h:∃x y z,P x y z∧Q x y z∧R x y z∧S x y z∧T x y z∧U x y z) (q:∀x y z,P x y z→Q x y z→R x y z→S x y z→T x y z→U x y z→G):G:=h.elim fun x h=>Aa h (q x)
end
section
variable{α:Sort _} {β:Sort _} {γ:Sort _} {δ:Sort _} {P Q R S T:α→β→γ→δ→Prop} {G:Prop}
theorem BF (j:α) (k:β) (l:γ) (m:δ) (p:P j k l m) (q:Q j k l m):∃x y z u,P x y z u∧Q x y z u:=⟨j,iO k l m p q⟩
theorem Dk (j:α) (k:β) (l:γ) (m:δ) (p:P j k l m) (q:Q j k l m) (r:R j k l m):∃x y z u,P x y z u∧Q x y z u∧R x y z u:=⟨j,mx k l m p q r⟩
theorem xx (j:α) (k:β) (l:γ) (m:δ) (p:P j k l m) (q:Q j k l m) (r:R j k l m) (s:S j k l m):∃x y z u,P x y z u∧Q x y z u∧R x y z u∧S x y z u:=⟨j,Gn k l m p q r s⟩
theorem CQ (j:α) (k:β) (l:γ) (m:δ) (p:P j k l m) (q:Q j k l m) (r:R j k l m) (s:S j k l m) (t:T j k l m):∃x y z u,P x y z u∧Q x y z u∧R x y z u∧S x y z u∧T x y z u:=⟨j,r2 k l m p q r s t⟩
theorem tL (h:∃x y z u,P x y z u∧Q x y z u) (q:∀x y z u,P x y z u→Q x y z u→G):G:=h.elim fun x h=>hR h (q x)
theorem I4 (h:∃x y z u,P x y z u∧Q x y z u∧R x y z u) (q:∀x y z u,P x y z u→Q x y z u→R x y z u→G):G:=h.elim fun x h=>j9 h (q x)
theorem IL (h:∃x y z u,P x y z u∧Q x y z u∧R x y z u∧S x y z u) (q:∀x y z u,P x y z u→Q x y z u→R x y z u→S x y z u→G):G:=h.elim fun x h=>uQ h (q x)
theorem Mg (h:∃x y z u,P x y z u∧Q x y z u∧R x y z u∧S x y z u∧T x y z u) (q:∀x y z u,P x y z u→Q x y z u→R x y z u→S x y z u→T x y z u→G):G:=h.elim fun x h=>wQ h (q x)
end
section
variable{α:Sort _} {β:Sort _} {γ:Sort _} {δ:Sort _} {ε:Sort _} {P Q R S:α→β→γ→δ→ε→Prop} {G:Prop}
theorem CW (j:α) (k:β) (l:γ) (m:δ) (n:ε) (p:P j k l m n) (q:Q j k l m n) (r:R j k l m n) (s:S j k l m n):∃x y z u v,P x y z u v∧Q x y z u v∧R x y z u v∧S x y z u v:=⟨j,xx k l m n p q r s⟩
theorem MB (h:∃x y z u v,P x y z u v∧Q x y z u v) (q:∀x y z u v,P x y z u v→Q x y z u v→G):G:=h.elim fun x h=>tL h (q x)
theorem NT (h:∃x y z u v,P x y z u v∧Q x y z u v∧R x y z u v∧S x y z u v) (q:∀x y z u v,P x y z u v→Q x y z u v→R x y z u v→S x y z u v→G):G:=h.elim fun x h=>IL h (q x)
end
set_option genInjectivity true in
inductive aj where
 |none
 |bool (b:Bool)
 |int (i:Int)
 |str (s:Str)
 |j (ds:List aj)
 |c (ds:List aj)
 |e (a:List (aj×aj))
 |inst (k:Nat)
 |box (k x:Nat)
open aj renaming bool→aA,box→da,inst→an,int→ae,none→a4,str→bP
noncomputable def aj.ctorIdx (d:aj):Nat:=d.casesOn 0 (fun _=>1) (fun _=>2) (fun _=>3) (fun _=>4) (fun _=>5) (fun _=>6) (fun _=>7) fun _ _=>8
inductive b0 where
 |c (ds:List aj)
 |e (k:List (aj×aj))
noncomputable def b0.frz:b0→aj
 |.c d=>.c d
 |.e k=>.e k
inductive il where
 |l (d:aj)
 |own (c:b0)
 |a (c:b0)
open il renaming own→bE
noncomputable def il.ctorIdx (d:il):Nat:=d.casesOn (fun _=>0) (fun _=>1) fun _=>2
abbrev au:=List (Nat×il)
inductive ic where
 |l (d:aj)
 |box (c:b0)
open ic renaming box→b1
structure o' where
 cls:Nat
 attrs:List (Nat×ic)
abbrev ar:=List o'
inductive eX where
 |a (x:Nat)
 |b (s:List Nat)
inductive bt where
 |v
 |h (d:aj)
 |f (x:Nat)
 |w (r:Operator) (a b:bt)
 |q (a:bt)
 |k (r:CmpOp) (a b:bt)
 |s (o p:CmpOp) (a b c:bt)
 |and (e:List bt)
 |or (e:List bt)
 |l (c a b:bt)
 |j (e:List bt)
 |list (e:List bt)
 |y
 |sub (a i:bt)
 |n (a:bt) (L z:Option bt)
 |attr (a:bt) (x:Nat)
 |call (g:Nat) (A:List bt)
 |u (a:bt) (m:Nat) (A:List bt)
 |comp (E:bt) (t:eX) (I:bt) (B:List bt)
open bt renaming and→ce,attr→aX,call→ap,comp→dY,list→dn,or→cV,sub→az
mutual
noncomputable def aj.beq:aj→aj→Bool
 |.none,.none=>af
 |.bool a,.bool b=>a==b
 |.int a,.int b=>a==b
 |.str a,.str b=>a==b
 |.j a,.j b=>hJ a b
 |.c a,.c b=>hJ a b
 |.inst a,.inst b=>a==b
 |.box a x,.box b y=>a==b&&x==y
 |_,_=>ai
noncomputable def hJ:List aj→List aj→Bool
 |[],[]=>af
 |a::r,b::t=>aj.beq a b&&hJ r t
 |_,_=>ai
end
noncomputable def aj.plain:Nat→aj→Bool
 |_,.none=>af
 |_,.int _=>af
 |_,.str s=>s.cps.all (·<0x110000)
 |n+1,.j d=>d.all (aj.plain n)
 |n+1,.c d=>d.all (aj.plain n)
 |_,_=>ai
noncomputable def aj.key:Nat→aj→Bool
 |_,.int _=>af
 |_,.str s=>s.cps.all (·<0x110000)
 |n+1,.j d=>d.all (aj.key n)
 |_,_=>ai
noncomputable def jX:aj→Bool
 |.int _=>af
 |_=>ai
noncomputable def i7:aj→Bool
 |.j _=>af
 |_=>ai
noncomputable def cT (k:aj) (s:List (aj×aj)):Bool:=aj.key 8 k&&match s with
 |[]=>jX k||i7 k
 |(x,_)::_=>(jX x&&jX k)||(i7 x&&i7 k)
noncomputable def b4:Nat:=1000000
noncomputable def f1 (k:aj):List (aj×aj)→Option aj
 |[]=>ah
 |(x,v)::r=>if aj.beq x k then ac v else f1 k r
noncomputable def dA (k:aj):List (aj×aj)→Bool
 |[]=>ai
 |(x,_)::r=>aj.beq x k||dA k r
noncomputable def gd (k v:aj):List (aj×aj)→List (aj×aj)
 |[]=>[(k,v)]
 |(x,w)::r=>if aj.beq x k then(x,v)::r else(x,w)::gd k v r
noncomputable def hT (k:aj):List (aj×aj)→List (aj×aj)
 |[]=>[]
 |(x,w)::r=>if aj.beq x k then r else(x,w)::hT k r
theorem Dh {k x v:aj} {r:List (aj×aj)}:f1 k ((x,v)::r)=if aj.beq x k then ac v else f1 k r:=rfl
theorem uT {k x v:aj} {r:List (aj×aj)}:dA k ((x,v)::r)=(aj.beq x k||dA k r):=rfl
theorem vO {k v x w:aj} {r:List (aj×aj)}:gd k v ((x,w)::r)=if aj.beq x k then(x,v)::r else(x,w)::gd k v r:=rfl
theorem PU {k x w:aj} {r:List (aj×aj)}:hT k ((x,w)::r)=if aj.beq x k then r else(x,w)::hT k r:=rfl
noncomputable def MM (i:Int):Bool:=aM (-(2^62)<i∧i<2^62)
noncomputable def lL {α:Type} (f:Int→Option α) (d:aj):Option α:=match d with
 |.int i=>f i
 |_=>ah
noncomputable def iB {α:Type} (f:Int→Int→Option α) (a b:aj):Option α:=lL (fun i=>lL (f i) b) a
noncomputable def eJ (o:m7) (a b:aj):Option aj:=match o with
 |.Add=>match a with
  |.c x=>match b with
   |.c y=>if x.length+y.length≤b4 then ac (.c (x++y)) else ah
   |_=>ah
  |.j x=>match b with
   |.j y=>if x.length+y.length≤b4 then ac (.j (x++y)) else ah
   |_=>ah
  |a=>iB (fun i j=>ac (ae (i+j))) a b
 |.Sub=>iB (fun i j=>ac (ae (i-j))) a b
 |.Mult=>match a with
  |.c x=>lL (fun j=>if-1000≤j∧j≤1000∧x.length≤1000 then ac (.c ((cx j.toNat x).flatten)) else ah) b
  |a=>iB (fun i j=>if MM j then ac (ae (i*j)) else ah) a b
 |.Mod=>iB (fun i j=>if 0<j then ac (ae (uw i j)) else ah) a b
 |.FloorDiv=>iB (fun i j=>if 0<j∧j<1000000 then ac (ae (Int.fdiv i j)) else ah) a b
 |.BitAnd=>iB (fun i j=>ac (ae (D7 i j))) a b
 |.BitOr=>iB (fun i j=>ac (ae (ud i j))) a b
 |_=>ah
noncomputable def oY:m_→Int→Int→Option Bool
 |.Lt,a,b=>ac (aM (a<b))
 |.LtE,a,b=>ac (aM (a≤b))
 |.Gt,a,b=>ac (aM (b<a))
 |.GtE,a,b=>ac (aM (b≤a))
 |_,_,_=>ah
noncomputable def ti (a b:aj):Option Bool:=match a with
 |.bool x=>match b with
  |.bool y=>ac (x==y)
  |_=>ah
 |a=>if aj.plain 8 a&&aj.plain 8 b then ac (aj.beq a b) else ah
noncomputable def wV:aj→Option Bool
 |.none=>ac af
 |.j _=>ac ai
 |.c _=>ac ai
 |.e _=>ac ai
 |.inst _=>ac ai
 |.box _ _=>ac ai
 |_=>ah
noncomputable def zZ:aj→Option Bool
 |.none=>ac ai
 |.bool b=>ac b
 |.int i=>ac (i !=0)
 |.str s=>if s.cps.size≤1000000 then ac (!s.cps.isEmpty) else ah
 |.j d=>ac (!d.isEmpty)
 |.c d=>ac (!d.isEmpty)
 |_=>ah
noncomputable def i4 (i:Int) (n:Nat):Option Nat:=if 0≤i then(if i<n then ac i.toNat else ah) else(if 0≤i+n then ac (i+n).toNat else ah)
noncomputable def lG (i:Int) (n:Nat):Nat:=if 0≤i then hF i.toNat n else(i+n).toNat
noncomputable def dF (l:List α) (L h:Option Int):List α:=
 let a:=match L with|none=>0|some i=>lG i l.length
 let b:=match h with|none=>l.length|some i=>lG i l.length
 (l.take b).drop a
noncomputable def bG (x:Nat):au→Option il
 |[]=>ah
 |(y,s)::r=>if y=x then ac s else bG x r
noncomputable def fZ (x:Nat) (s:il):au→au
 |[]=>[(x,s)]
 |(y,t)::r=>if y=x then(y,s)::r else(y,t)::fZ x s r
noncomputable def lJ (x:Nat) (f:au):Option (aj×au):=match bG x f with
 |some (.l d)=>ac (d,f)
 |some (.own c)=>ac (c.frz,fZ x (.l c.frz) f)
 |_=>ah
noncomputable def gV (x:Nat) (f:au):Option b0:=match bG x f with
 |some (.own c)=>ac c
 |some (.a c)=>ac c
 |_=>ah
noncomputable def jt (x:Nat) (c:b0) (f:au):Option au:=match bG x f with
 |some (.own _)=>ac (fZ x (bE c) f)
 |some (.a _)=>ac (fZ x (.a c) f)
 |_=>ah
noncomputable def nu:List (Nat×Nat):=[(109,120),(156,180),(198,439),(232,774),(252,897),(257,942),(273,1051)]
noncomputable def eP (c:Nat):Nat:=(nu.lookup c).getD 0
noncomputable def jU:List Nat:=[0,1,8,10,11,12,13,14,15,16,18,19,20,21,36,37,38,39,40,41,42,43,48,49,50,52,53,54]
noncomputable def wR:List (Nat×Nat×Nat×Nat):=[(109,34,1360,96),(109,7,1361,103),(109,31,1362,110),(109,35,1363,117),
 (156,34,3240,163),(156,44,3241,170),(156,7,3242,177),
 (198,34,4920,394),(198,25,4921,401),(198,23,4922,408),(198,24,4923,415),(198,22,4924,422),(198,26,4925,429),
 (232,34,6280,645),(232,17,6281,652),(232,27,6285,680),(232,28,6295,750),
 (252,30,7080,894),(257,9,7280,939),(273,9,7920,1048)]
noncomputable def Jo:List (Nat×Nat):=[(100,21),(157,192),(158,200),(159,208),(160,216),(161,223),(162,230),(163,237),(164,243),(165,250),(166,257),(167,264),(168,271),(169,278),(170,285),(171,290),(172,297),(173,304),(174,311),(175,318),(176,325),(199,450),(200,457),(201,464),(202,471),(203,478),(204,485),(205,492),(206,499),(207,506),(208,513),(209,520),(210,527),(211,534),(212,541),(213,548),(214,555),(215,562),(216,569),(217,576),(218,583),(219,590),(220,597),(221,604),(222,611),(224,616),(227,624),(228,631),(233,785),(234,792),(235,799),(236,804),(237,811),(238,818),(239,825),(240,832),(241,837),(242,844),(243,851),(244,858),(245,863),(246,870),(248,875),(249,880),(253,906),(254,913),(255,920),(256,925),(258,951),(259,958),(261,963),(262,970),(263,977),(264,984),(265,989),(266,994),(267,1001),(268,1008),(269,1015),(270,1020),(271,1027),(272,1034),(274,1060),(277,1068),(278,1075),(279,1080),(280,1085),(281,1092),(282,1099),(283,1106),(284,1113),(285,1120),(286,1125),(287,1132),(288,1139),(289,1146),(290,1151),(291,1156),(292,1163),(293,1168),(294,1175),(295,1180),(106,39),(107,60),(108,80),(109,120),(156,180),(197,376),(198,439),(232,774),(252,897),(257,942),(273,1051)]
noncomputable def l2 (g:Nat):Nat:=(Jo.lookup g).getD 0
noncomputable def i_:List (Nat×Nat×Nat):=[(100,21,20),(157,192,191),(158,200,199),(159,208,207),(160,216,215),(161,223,222),(162,230,229),(163,237,236),(164,243,242),(165,250,249),(166,257,256),(167,264,263),(168,271,270),(169,278,277),(170,285,284),(171,290,289),(172,297,296),(173,304,303),(174,311,310),(175,318,317),(176,325,324),(199,450,449),(200,457,456),(201,464,463),(202,471,470),(203,478,477),(204,485,484),(205,492,491),(206,499,498),(207,506,505),(208,513,512),(209,520,519),(210,527,526),(211,534,533),(212,541,540),(213,548,547),(214,555,554),(215,562,561),(216,569,568),(217,576,575),(218,583,582),(219,590,589),(220,597,596),(221,604,603),(222,611,610),(224,616,615),(227,624,623),(228,631,630),(233,785,784),(234,792,791),(235,799,798),(236,804,803),(237,811,810),(238,818,817),(239,825,824),(240,832,831),(241,837,836),(242,844,843),(243,851,850),(244,858,857),(245,863,862),(246,870,869),(248,875,874),(249,880,879),(253,906,905),(254,913,912),(255,920,919),(256,925,924),(258,951,950),(259,958,957),(261,963,962),(262,970,969),(263,977,976),(264,984,983),(265,989,988),(266,994,993),(267,1001,1000),(268,1008,1007),(269,1015,1014),(270,1020,1019),(271,1027,1026),(272,1034,1033),(274,1060,1059),(277,1068,1067),(278,1075,1074),(279,1080,1079),(280,1085,1084),(281,1092,1091),(282,1099,1098),(283,1106,1105),(284,1113,1112),(285,1120,1119),(286,1125,1124),(287,1132,1131),(288,1139,1138),(289,1146,1145),(290,1151,1150),(291,1156,1155),(292,1163,1162),(293,1168,1167),(294,1175,1174),(295,1180,1179),(1240,36,35),(1280,57,56),(1320,77,76),(1360,96,95),(1361,103,102),(1362,110,109),(1363,117,116),(3240,163,162),(3241,170,169),(3242,177,176),(4880,345,344),(4881,352,351),(4882,359,358),(4883,366,365),(4884,373,372),(4920,394,393),(4921,401,400),(4922,408,407),(4923,415,414),(4924,422,421),(4925,429,428),(4926,436,435),(6280,645,644),(6281,652,651),(6282,659,658),(6283,666,665),(6284,673,672),(6285,680,679),(6286,687,686),(6287,694,693),(6288,701,700),(6289,708,707),(6290,715,714),(6291,722,721),(6292,729,728),(6293,736,735),(6294,743,742),(6295,750,749),(6296,757,756),(6297,764,763),(6298,771,770),(7080,894,893),(7280,939,938),(7920,1048,1047)]
noncomputable def jW (c:Nat):Bool:=(nu.lookup c).isSome
noncomputable def ib (k x:Nat) (Y:ar):Option ic:=if jU.contains x then(Y[k]?).bind fun i=>i.attrs.lookup x else ah
noncomputable def su (x:Nat) (v:ic):List (Nat×ic)→List (Nat×ic)
 |[]=>[(x,v)]
 |(y,w)::r=>if y=x then(y,v)::r else(y,w)::su x v r
noncomputable def gk (k x:Nat) (v:ic) (Y:ar):Option ar:=if jU.contains x then(match Y[k]?with
 |some i=>ac (Y.set k {i with attrs:=su x v i.attrs})
 |none=>ah) else ah
noncomputable def dR (k x:Nat) (Y:ar):Option b0:=match ib k x Y with
 |some (.box c)=>ac c
 |_=>ah
noncomputable def jp (k x:Nat):Bool:=(k==0&&x==0)||(k==2&&x==1)
inductive fN where
 |c (ds:List aj)
 |j (ds:List aj)
 |e (k:List (aj×aj))
 |str (s:Str)
open fN renaming str→ko
noncomputable def b0.sq:b0→fN
 |.c d=>.c d
 |.e k=>.e k
noncomputable def aj.sq (Y:ar):aj→Option fN
 |.c d=>ac (.c d)
 |.j d=>ac (.j d)
 |.e a=>ac (.e a)
 |.str s=>ac (ko s)
 |.box k x=>(dR k x Y).map b0.sq
 |_=>ah
mutual
noncomputable def bt.simple:bt→Bool
 |.h _=>af
 |.f _=>af
 |.j E=>lx E
 |.sub a i=>a.simple&&i.simple
 |.n a L c=>a.simple&&nl L&&nl c
 |.attr a _=>a.simple
 |.w _ a b=>a.simple&&b.simple
 |.u (.attr a _) m []=>a.simple&&m==2
 |_=>ai
noncomputable def lx:List bt→Bool
 |[]=>af
 |e::r=>e.simple&&lx r
noncomputable def nl:Option bt→Bool
 |none=>af
 |some e=>e.simple
end
inductive cR where
 |next
 |o
 |cont
 |h (d:aj)
open cR renaming cont→iz,next→a'
inductive fO where
 |l (d:aj)
 |a (c:b0)
inductive nM where
 |slot (x:Nat)
 |sq (d:aj)
open nM renaming slot→g9,sq→dI
noncomputable def nM.now (c:nM) (f:au) (Y:ar):Option fN:=match c with
 |.slot x=>(gV x f).map b0.sq
 |.sq d=>d.sq Y
noncomputable def nM.box:nM→Bool
 |.sq (.box _ _)=>af
 |_=>ai
noncomputable def eA (q:fN) (d:aj):Option aj:=match q with
 |.c D=>lL (fun i=>(i4 i D.length).bind fun j=>D[j]?) d
 |.j D=>lL (fun i=>(i4 i D.length).bind fun j=>D[j]?) d
 |.e k=>if cT d k then f1 d k else ah
 |.str s=>if s.cps.size≤b4 then lL (fun i=>(i4 i s.cps.size).bind fun j=>(s.cps[j]?).map fun c=>bP ⟨#[c]⟩) d else ah
noncomputable def f7 (l h:Option Int):fN→Option aj
 |.c d=>ac (.c (dF d l h))
 |.j d=>ac (.j (dF d l h))
 |.str s=>if s.cps.size≤b4 then ac (bP ⟨(dF s.cps.toList l h).toArray⟩) else ah
 |_=>ah
noncomputable def rL:fN→Nat
 |.c d=>d.length
 |.j d=>d.length
 |.e k=>k.length
 |.str s=>s.cps.size
noncomputable def cX (d:aj):fN→Option Bool
 |.c D=>if aj.plain 8 d&&D.all (aj.plain 8) then ac (D.any fun x=>aj.beq x d) else ah
 |.j D=>if aj.plain 8 d&&D.all (aj.plain 8) then ac (D.any fun x=>aj.beq x d) else ah
 |.e k=>if cT d k then ac (dA d k) else ah
 |_=>ah
noncomputable def sb:fN→List aj
 |.c d=>d
 |.j d=>d
 |.e k=>k.map (·.1)
 |.str s=>s.cps.toList.map fun c=>bP ⟨#[c]⟩
noncomputable def wq (o:m_) (a b:aj):Option Bool:=match o with
 |.Eq=>ti a b
 |.NotEq=>(ti a b).map (!·)
 |.Is=>match b with
  |.none=>wV a
  |_=>ah
 |.IsNot=>match b with
  |.none=>(wV a).map (!·)
  |_=>ah
 |o=>iB (oY o) a b
noncomputable def oN (c m:Nat):Option Nat:=(wR.find? fun r=>r.1==c&&r.2.1==m).map (·.2.2.1)
noncomputable def ky (g:Nat):Option (Option Nat):=if[252,257,273].contains g then ac ah else(oN g 34).map ac
structure g_ where
 modes:Nat→List Bool
noncomputable def OD (a b:br):Bool:= !(aM (b.cps.toList<a.cps.toList))
noncomputable def l9 (a:Int):List Int→List Int
 |[]=>[a]
 |b::r=>if a≤b then a::b::r else b::l9 a r
noncomputable def nI:List Int→List Int
 |[]=>[]
 |a::r=>l9 a (nI r)
noncomputable def sX:List aj→Option (List Int)
 |[]=>ac []
 |.int i::r=>(sX r).map (i::·)
 |_::_=>ah
noncomputable def nw:List aj→Option Bool
 |[]=>ac af
 |.bool b::r=>(nw r).map fun c=>b&&c
 |_::_=>ah
noncomputable def f4 (a b:Int):List aj:=(cv (b-a).toNat).map fun(k:Nat)=>ae (a+(k:Int))
noncomputable def r4 (ms:List Bool) (e:bt) (f:au):Option Nat:=match ms,e with
 |true::_,.f x=>if(gV x f).isSome then ac x else ah
 |_,_=>ah
noncomputable def iK:List (aj⊕Nat)→List Nat
 |[]=>[]
 |.inl _::r=>iK r
 |.inr x::r=>x::iK r
noncomputable def lj (f:au):List (aj⊕Nat)→Option (List fO)
 |[]=>ac []
 |.inl d::r=>(lj f r).map (.l d::·)
 |.inr x::r=>do
  let c←gV x f
  (lj f r).map (.a c::·)
noncomputable def qD:List Nat→List b0→au→Option au
 |[],[],f=>ac f
 |x::X,c::C,f=>(jt x c f).bind (qD X C)
 |_,_,_=>ah
noncomputable def wO:List Nat→Bool
 |[]=>af
 |x::r=> !r.contains x&&wO r
noncomputable def Im (d:aj):Option (List aj):=match d with
 |.c y=>ac y
 |.j y=>ac y
 |_=>ah
noncomputable def fJ (m:Nat) (c:b0) (ds:List aj):Option (aj×b0):=match c with
 |.e _=>ah
 |.c x=>match ds with
  |[]=>cond (d3 m 2) (match x.getLast? with
   |some d=>ac (d,.c x.dropLast)
   |none=>ah) (cond (d3 m 6) (ac (a4,.c x.reverse)) ah)
  |[d]=>cond (d3 m 3) (if x.length≤b4 then ac (a4,.c (x++[d])) else ah) (cond (d3 m 4) (match Im d with
   |some y=>if x.length+y.length≤b4 then ac (a4,.c (x++y)) else ah
   |none=>ah) ah)
  |_=>ah
noncomputable def gy (b:Option (Nat×Nat)) (ds:List aj) (Y:ar):Bool:=match b with
 |none=>af
 |some (k,x)=>match dR k x Y with
  |some (.c e)=>hJ e ds
  |_=>ai
noncomputable def y5 (o:m_) (a b:aj):Option Bool:=match a with
 |.str i=>match b with
  |.str j=>if o matches oq then ac (OD i j) else ah
  |_=>ah
 |a=>iB (oY o) a b
noncomputable def Nv:m7→aj→aj→Option aj
 |.Add,.int a,.int b=>ac (ae (a+b))
 |.Sub,.int a,.int b=>ac (ae (a-b))
 |.BitOr,.int a,.int b=>ac (ae (ud a b))
 |_,_,_=>ah
noncomputable def zE (k:Nat) (Y:ar):Bool:=match Y[k]?with
 |some i=>[109,156,198,232].contains i.cls
 |none=>ai
noncomputable def gW (c:b0) (i v:aj):Option b0:=match c with
 |.c d=>lL (fun k=>(i4 k d.length).map fun j=>.c (d.set j v)) i
 |.e s=>if cT i s∧s.length≤b4 then ac (.e (gd i v s)) else ah
noncomputable def j5 (x:Nat) (f:au):Bool:=match bG x f with
 |some (.a _)=>af
 |_=>ai
noncomputable def o9 (x:Nat) (s:il) (f:au):Option au:=if j5 x f then ah else ac (fZ x s f)
noncomputable def qB:List Nat→List aj→au→Option au
 |[],[],f=>ac f
 |x::X,d::D,f=>(o9 x (.l d) f).bind (qB X D)
 |_,_,_=>ah
noncomputable def Dg (t:eX) (d:aj) (f:au):Option au:=match t with
 |.a x=>o9 x (.l d) f
 |.b X=>match d with
  |.j D=>qB X D f
  |_=>ah
noncomputable def nq (k x:Nat) (v:ic) (Y:ar):Option ar:=if zE k Y then(match ib k x Y with
 |some _=>if jp k x then ah else gk k x v Y
 |none=>gk k x v Y) else ah
noncomputable def Gc:aj→Bool
 |.none=>af
 |.bool _=>af
 |.int _=>af
 |_=>ai
noncomputable def pi:Nat:=100000
noncomputable def f0:List Str:=["k","tab","text","fresh","n","b","elem","ro","elems","marks","found","place","last","out","given","mark","first","held","rows","t","row","kind","got","parts","top","kept","part","rel","number","s","rule","mode","made","spot","host","told","key","answer","clean","a","lax","ss","ts","owners","prop","hidden","seen","waiting","at","more","name","digits","letter","late","shape","hole","kinds","tags","props","units","wider","unit","chosen","lists","choices","length","rest","tail","mine","theirs","pair","pairs","t_ro","whole","d","x","atoms","atom","go","wide","heads","how","opts","tails","start","size","groups","group","one","total","cut","mask","bits","small","big","ways","script","nums","way","direct","self","code","mapping","pids","check","ext","erased"].map gp
noncomputable def iA:List Str:=["rows","rules","pop","append","extend","get","reverse","put","index","holds","telling","host","twin","mode","notes","trail","assumed","force","tab","looks","deep","known","mark","note","same","ask","back","bound","list_prop","shape","tells","codes","number","text","__init__","clean","decls","bounds","defaults","names","origins","renamed","shaping","putting","row","loose","sig","blank","road","missing","at","infer_sig","most_rounds","most_deep","lib","put_deferred","put_cond","lay_row","fits","lies","infers","tpl_fits","shape_fits","put_in","own_sig","forget","list_index","elem_met","error_class"].map gp
noncomputable def lD:List (br×aj):=[("U_ANY",(ae 1)),("U_PROP",(ae 3)),("U_ENUM",(ae 10)),("U_VAR",(ae 15)),("Y_KEY",(ae 1)),("Y_BOOL",(ae 2)),("Y_STR",(ae 3)),("Y_NUM",(ae 4)),("Y_ENUM",(ae 5)),("Y_UNION",(ae 6)),("Y_INTER",(ae 7)),("Y_OBJ",(ae 8)),("Y_REF",(ae 9)),("Y_PARAM",(ae 10)),("Y_ARRAY",(ae 11)),("Y_TUPLE",(ae 12)),("Y_SIG",(ae 13)),("Y_KEYOF",(ae 14)),("Y_INDEX",(ae 15)),("Y_COND",(ae 16)),("Y_MAPPED",(ae 17)),("Y_TPL",(ae 18)),("Y_ALIAS",(ae 19)),("ANY",(ae 0)),("UNKNOWN",(ae 1)),("NEVER",(ae 2)),("VOID",(ae 3)),("UNDEF",(ae 4)),("NULLT",(ae 5)),("STRING",(ae 6)),("NUMBER",(ae 7)),("FALSE_T",(ae 8)),("TRUE_T",(ae 9)),("OBJECTT",(ae 10)),("EMPTY",(ae 11)),("ERR",(ae 13)),("FRESH_F",(ae 14)),("FRESH_T",(ae 15)),("P_OPT",(ae 1)),("P_PRIVATE",(ae 8)),("P_PROTECTED",(ae 16)),("E_NEED",(ae 0)),("E_OPT",(ae 1)),("E_REST",(ae 2)),("E_SPREAD",(ae 3)),("MAX_UNION",(ae 400)),("FIRST_ROWS",(.j [(.j [(ae 1),(bP ("any"))]),(.j [(ae 1),(bP ("unknown"))]),(.j [(ae 1),(bP ("never"))]),(.j [(ae 1),(bP ("void"))]),(.j [(ae 1),(bP ("undefined"))]),(.j [(ae 1),(bP ("null"))]),(.j [(ae 1),(bP ("string"))]),(.j [(ae 1),(bP ("number"))]),(.j [(ae 2),(ae 0),(ae 0)]),(.j [(ae 2),(ae 1),(ae 0)]),(.j [(ae 1),(bP ("object"))]),(.j [(ae 8),(.j []),(.j []),(.j []),(.j []),(.j []),(ae 0)]),(.j [(ae 6),(.j [(ae 8),(ae 9)])]),(.j [(ae 1),(bP ("error"))]),(.j [(ae 2),(ae 0),(ae 1)]),(.j [(ae 2),(ae 1),(ae 1)])])),("LITERAL_ROWS",(.j [(ae 2),(ae 3),(ae 4),(ae 5)])),("MARKED_ROWS",(.j [(ae 2),(ae 3),(ae 4),(ae 5),(ae 8)])),("R_ASSIGN",(ae 1)),("R_COMPARE",(ae 2)),("R_IDENT",(ae 3)),("R_SUBTYPE",(ae 4)),("RULE_MEET",(ae 1)),("RULE_DEFERRED",(ae 2)),("RULE_SIG",(ae 3)),("RULE_LIST",(ae 4)),("RULE_OBJECT",(ae 5)),("RULE_CHOICE",(ae 6)),("RULE_PLACES",(ae 12)),("RULE_TELLS",(ae 13)),("VALUE_ROWS",(.j [(ae 1),(ae 2),(ae 3),(ae 4),(ae 5)])),("LIST_ROWS_relbase",(.j [(ae 11),(ae 12)])),("SHAPED_ROWS",(.j [(ae 8),(ae 9)])),("DEFERRED_ROWS",(.j [(ae 10),(ae 14),(ae 15),(ae 16),(ae 17),(ae 18),(ae 19)])),("OPEN_ROWS",(.j [(ae 6),(ae 7),(ae 10),(ae 14),(ae 15),(ae 16),(ae 17),(ae 18),(ae 19)])),("MAX_OPEN",(ae 60)),("MOST_LOOKS",(ae 20000)),("LIST_ROWS_shapes",(.j [(ae 11),(ae 12)])),("MOST_ROUNDS",(ae 200)),("MOST_SHAPES",(ae 40)),("MAX_COMBOS",(ae 25)),("_law_points",(.j [(ae 1),(ae 2),(ae 8),(ae 32),(ae 64),(ae 128),(ae 7),(ae 24)]))].map fun p=>(gp p.1,p.2)
noncomputable def j8:List (br×Nat):=[("len",10),("range",11),("sorted",12),("max",13),("all",14),("str",15),("int",16),("tuple",17),("dict",18),("_wall",100),("str_type",157),("num_type",158),("bool_type",159),("array_type",160),("last_mark",161),("needed_to_last",162),("one_rest",163),("tuple_type",164),("parts_of",165),("whole_of_row",166),("regular_twin",167),("join_bools",168),("stays_beside",169),("top_of",170),("union",171),("add_undef",172),("is_literal",173),("is_unit",174),("is_fresh",175),("regular_one",176),("by_rule",199),("silent_with",200),("twin_of",201),("cut_back",202),("settled",203),("ask_kinds",204),("relbase_kept",205),("close_trail",206),("tells",207),("taken_wider",208),("simple_related",209),("tops_related",210),("unknown_told",211),("is_numeric_enum",212),("values_related",213),("number_to_enum",214),("structured",215),("rule_for",216),("from_union",217),("some_part",218),("lay_again",219),("to_union",220),("same_kind",221),("each_in",222),("all_units",224),("hidden_apart",227),("final_parts",228),("elem_read",233),("told_places",234),("find_prop",235),("is_digits",236),("place_of",237),("is_number_name",238),("prop_row",239),("read_type",240),("late_place",241),("list_read",242),("index_read",243),("part_type",244),("prop_type",245),("tuple_at",246),("is_tag",248),("tells_apart",249),("relate_told_apart",253),("all_choices",254),("split_places",255),("by_places",256),("install_rel_tells",258),("install_rel_places",259),("least_length",261),("open_place",262),("elem_for",263),("lengths_fit",264),("place_pairs",265),("is_unsettled",266),("by_marks",267),("pairs_hold",268),("spreads_laid",269),("tuples_hold",270),("into_array",271),("tuple_related",272),("install_rel_lists",274),("_law_take",277),("_law_plain",278),("_law_kind",279),("_law_source",280),("_law_flat",281),("_law_with",282),("_law_cover",283),("_law_turn",284),("_law_mask",285),("_law_bits",286),("_law_slots",287),("_law_lies",288),("_law_reads",289),("_law_ways",290),("_law_takers",291),("_law_union",292),("_law_list",293),("_law_parts",294),("law",295),("KeepError",106),("TooDeep",107),("HostFault",108),("Notes",109),("TypeTable",156),("RelRule",197),("Rel",198),("Thin",232),("TellsRule",252),("PlacesRule",257),("RellistListRule",273)].map fun p=>(gp p.1,p.2)
inductive ej where
 |v
 |d (e:bt)
 |h (e:bt)
 |set (x:Nat) (e:bt)
 |g (x:Nat) (E:List bt)
 |p (x:Nat)
 |j (x:Nat) (C:bt) (t:eX) (I:bt) (s:List bt)
 |u (x:Nat) (a:bt)
 |names (X:List Nat) (e:bt)
 |attr (a:bt) (x:Nat) (e:bt)
 |k (a:bt) (x:Nat) (E:List bt)
 |n (a:bt) (x:Nat)
 |sub (a i e:bt)
 |B (x:Nat) (z:Operator) (e:bt)
 |q (a:bt) (x:Nat) (z:Operator) (e:bt)
 |f (t:eX) (I:bt) (A:List ej)
 |m (c:bt) (A:List ej)
 |l (c:bt) (a b:List ej)
 |del (a i:bt)
 |w (a L:bt)
 |y
 |o
 |cont
open ej renaming attr→eW,cont→rI,del→l0,names→kn,set→bg,sub→eV
mutual
noncomputable def ej.simple:ej→Bool
 |.sub a i e=>a.simple&&i.simple&&e.simple
 |.set _ e=>e.simple
 |.del a i=>a.simple&&i.simple
 |.l c a b=>c.simple&&kD a&&kD b
 |.y=>af
 |_=>ai
noncomputable def kD:List ej→Bool
 |[]=>af
 |s::r=>s.simple&&kD r
end
inductive vW where
 |get (q:fN) (d:aj)
 |cut (l h:Option Int) (q:fN)
 |w (o:Operator) (a b:aj)
 |B (o:Operator) (a b:aj)
 |len (q:fN)
 |c (a b:aj)
 |str (d:aj)
 |int (d:aj)
 |key (k:aj) (s:List (aj×aj)) (d:aj)
 |sorted (s:List (aj×aj))
open vW renaming key→ow,len→pT,sorted→uI,str→rG
noncomputable def fM:eX→List Nat
 |.a x=>[x]
 |.b X=>X
noncomputable def vW.e:vW→Option aj
 |.get q d=>eA q d
 |.cut l h q=>f7 l h q
 |.w o a b=>eJ o a b
 |.B o a b=>cond (jX a) (match o with
  |.Add=>eJ b9 a b
  |.Sub=>eJ fU a b
  |.BitOr=>eJ iw a b
  |_=>ah) ah
 |.len q=>if rL q≤16777216 then ac (ae (rL q)) else ah
 |.c a b=>iB (fun i j=>ac (ae (if i<j then j else i))) a b
 |.str d=>lL (fun i=>if 0≤i∧i<1000 then ac (bP (gp (toString i))) else ah) d
 |.int d=>match d with
  |.str s=>if s.cps.size≤640 then(intText? s).map ae else ah
  |_=>ah
 |.key k f d=>if cT k f then ac ((f1 k f).getD d) else ah
 |.sorted f=>if f.length<64 then(sX (f.map (·.1))).map fun I=>.c ((nI I).map ae) else ah
inductive wk where
 |has (d:aj) (q:fN)
 |k (o:CmpOp) (a b:aj)
 |s (o:CmpOp) (a b:aj)
 |tr (d:aj)
 |all (ds:List aj)
 |le (n m:Nat)
 |c (f:List (aj×aj))
open wk renaming tr→hG
noncomputable def wk.e:wk→Option Bool
 |.has d q=>cX d q
 |.k o a b=>wq o a b
 |.s o a b=>y5 o a b
 |.tr d=>zZ d
 |.all D=>nw D
 |.le n m=>ac (aM (n≤m))
 |.c f=>ac (f.all fun p=>jX p.1)
inductive xB where
 |u (m:Nat) (c:b0) (ds:List aj)
 |set (c:b0) (i v:aj)
 |del (k:aj) (s:List (aj×aj))
 |cut (n:aj) (ds:List aj)
open xB renaming cut→rH,del→ov,set→ou
noncomputable def xB.e:xB→Option (aj×b0)
 |.u m c d=>fJ m c d
 |.set c i v=>(gW c i v).map fun c=>(a4,c)
 |.del k s=>if i7 k&&cT k s&&dA k s then ac (a4,.e (hT k s)) else ah
 |.cut n d=>match n with
  |.int n=>if 0≤n then ac (a4,.c (d.take n.toNat)) else ah
  |_=>ah
structure S8 where
 body:List ej
 c:Option bt
 t:eX
 b:Option (Nat×Nat)
 d:List aj
 L:au
 st:ar
structure Tc where
 a:bt
 b:List bt
 t:eX
 d:List aj
 L:au
 st:ar
inductive kr where
 |a (k:Nat) (p:S8)
 |comp (k:Nat) (p:Tc)
open kr renaming comp→rJ
abbrev d1:=cR×au×ar
inductive aT where
 |a
 |h (f:d1)
 |d (o:vW) (k:aj→aT)
 |b (o:wk) (k:Bool→aT)
 |c (o:xB) (k:aj→b0→aT)
 |call (g:Nat) (A:List fO) (Y:ar) (k:aj→List b0→ar→aT)
 |sub (s:kr) (k:cR→au→ar→aT)
open aT renaming call→pS,d→e_,sub→l1
noncomputable def aT.bind (K:d1→aT):aT→aT
 |.a=>.a
 |.h f=>K f
 |.d o k=>e_ o fun v=>(k v).bind K
 |.b o k=>.b o fun v=>(k v).bind K
 |.c o k=>.c o fun D v=>(k D v).bind K
 |.call g A Y k=>pS g A Y fun D C Y=>(k D C Y).bind K
 |.sub s k=>l1 s fun f L Y=>(k f L Y).bind K
noncomputable def dW (f:cR) (L:au) (Y:ar):aT:=.h (f,L,Y)
structure gv where
 e:bt→au→ar→(aj→au→ar→aT)→aT
 t:bt→au→ar→(Bool→au→ar→aT)→aT
 ss:List ej→au→ar→(cR→au→ar→aT)→aT
section
variable(T:g_) (lv:Nat) (r:gv)
noncomputable def qu (b:bt) (x:Nat) (L:au) (Y:ar) (k:Nat×ic→au→ar→aT):aT:=r.e b L Y fun d L Y=>match d with
 |.inst j=>match ib j x Y with
  |some a=>k (j,a) L Y
  |none=>.a
 |_=>.a
noncomputable def f2 (a:bt) (L:au) (Y:ar) (k:nM→au→ar→aT):aT:=match a with
 |.f x=>match bG x L with
  |some (.l d)=>k (dI d) L Y
  |some _=>k (g9 x) L Y
  |none=>.a
 |.attr b x=>qu r b x L Y fun t L Y=>match t.2 with
  |.l d=>k (dI d) L Y
  |.box _=>k (dI (da t.1 x)) L Y
 |a=>r.e a L Y fun d L Y=>k (dI d) L Y
noncomputable def i3 (c:nM) (L:au) (Y:ar) (k:fN→aT):aT:=match c.now L Y with
 |some q=>k q
 |none=>.a
noncomputable def g2:List bt→au→ar→(List aj→au→ar→aT)→aT
 |[],L,Y,k=>k [] L Y
 |e::E,L,Y,k=>r.e e L Y fun d L Y=>g2 E L Y fun D L Y=>k (d::D) L Y
noncomputable def qb:Option bt→au→ar→(Option Int→au→ar→aT)→aT
 |none,L,Y,k=>k ah L Y
 |some e,L,Y,k=>r.e e L Y fun d L Y=>match d with
  |.int i=>k (ac i) L Y
  |_=>.a
noncomputable def wj (o:m_) (a b:bt) (L:au) (Y:ar) (k:Bool→au→ar→aT):aT:=
 r.e a L Y fun d L Y=>match o with
 |.In=>f2 r b L Y fun c L Y=>i3 c L Y fun q=>aT.b (.has d q) fun v=>k v L Y
 |.NotIn=>f2 r b L Y fun c L Y=>i3 c L Y fun q=>aT.b (.has d q) fun v=>k (!v) L Y
 |o=>r.e b L Y fun D L Y=>aT.b (.k o d D) fun v=>k v L Y
noncomputable def wg (h:Bool):List bt→au→ar→(aj→au→ar→aT)→aT
 |[],_,_,_=>.a
 |[e],L,Y,k=>r.e e L Y k
 |e::E,L,Y,k=>r.e e L Y fun d L Y=>aT.b (hG d) fun b=>if b==h then wg h E L Y k else k d L Y
noncomputable def uL (h:Bool):List bt→au→ar→(Bool→au→ar→aT)→aT
 |[],L,Y,k=>k h L Y
 |e::E,L,Y,k=>r.t e L Y fun b L Y=>if b==h then uL h E L Y k else k b L Y
noncomputable def nr:List Bool→List bt→au→ar→(List (aj⊕Nat)→au→ar→aT)→aT
 |_,[],L,Y,k=>k [] L Y
 |m,e::E,L,Y,k=>match r4 m e L with
  |some x=>nr m.tail E L Y fun a L Y=>k (jm x::a) L Y
  |none=>r.e e L Y fun d L Y=>nr m.tail E L Y fun a L Y=>k (fS d::a) L Y
noncomputable def mz (g:Nat) (a:List (aj⊕Nat)) (L:au) (Y:ar) (k:aj→au→ar→aT):aT:=
 if wO (iK a) then match lj L a with
  |some A=>pS g A Y fun d c Y=>match qD (iK a) c L with
   |some L=>k d L Y
   |none=>.a
  |none=>.a
 else .a
noncomputable def wX (g:Nat) (a:List bt) (L:au) (Y:ar) (k:aj→au→ar→aT):aT:=match ky g with
 |some none=>match a with
  |[]=>if jW g then k (an Y.length) L (Y++[⟨g,[]⟩]) else .a
  |_=>.a
 |some (some i)=>if jW g then g2 r a L Y fun D L Y=>mz i (fS (an Y.length)::D.map fS) L (Y++[⟨g,[]⟩]) fun d L s=>match d with
   |.none=>k (an Y.length) L s
   |_=>.a
  else .a
 |none=>nr r (T.modes g) a L Y fun A L Y=>mz g A L Y k
noncomputable def vr (g:Nat) (A:List bt) (L:au) (Y:ar) (k:aj→au→ar→aT):aT:=match A with
 |[a]=>cond (d3 g 10) (f2 r a L Y fun c L Y=>i3 c L Y fun q=>e_ (pT q) fun d=>k d L Y)
  (cond (d3 g 12) (f2 r a L Y fun c L Y=>i3 c L Y fun q=>match q with
   |.e s=>e_ (uI s) fun d=>k d L Y
   |_=>.a)
  (cond (d3 g 14) (r.e a L Y fun d L Y=>match d with
   |.c D=>aT.b (.all D) fun b=>k (aA b) L Y
   |_=>.a)
  (cond (d3 g 15) (r.e a L Y fun d L Y=>e_ (rG d) fun d=>k d L Y)
  (cond (d3 g 16) (r.e a L Y fun d L Y=>e_ (.int d) fun d=>k d L Y)
  (cond (d3 g 17) (f2 r a L Y fun c L Y=>i3 c L Y fun q=>match q with
   |.c D=>k (.j D) L Y
   |_=>.a) .a)))))
 |[a,b]=>cond (d3 g 13) (r.e a L Y fun d L Y=>r.e b L Y fun e L Y=>e_ (.c d e) fun d=>k d L Y) .a
 |_=>.a
noncomputable def vC (g:Nat) (a:List bt) (L:au) (Y:ar) (k:aj→au→ar→aT):aT:=cond (fx 100 g) (wX T r g a L Y k) (vr r g a L Y k)
noncomputable def qx (m:Nat):Bool:=d3 m 2||(d3 m 3||(d3 m 4||d3 m 6))
noncomputable def vu (x m:Nat) (a:List bt) (L:au) (Y:ar) (k:aj→au→ar→aT):aT:=match gV x L with
 |some (.c _)=>cond (qx m) (g2 r a L Y fun D L Y=>match gV x L with
  |some c=>aT.c (.u m c D) fun d c=>match jt x c L with
   |some L=>k d L Y
   |none=>.a
  |none=>.a) .a
 |_=>.a
noncomputable def vQ (j x m:Nat) (a:List bt) (L:au) (Y:ar) (k:aj→au→ar→aT):aT:=match dR j x Y with
 |some (.c _)=>cond (qx m) (g2 r a L Y fun D L Y=>match dR j x Y with
  |some c=>aT.c (.u m c D) fun d c=>match gk j x (b1 c) Y with
   |some Y=>k d L Y
   |none=>.a
  |none=>.a) .a
 |some (.e _)=>if m==5 then g2 r a L Y fun D L Y=>match dR j x Y,D with
   |some (.e s),[y]=>e_ (ow y s a4) fun d=>k d L Y
   |some (.e s),[y,e]=>e_ (ow y s e) fun d=>k d L Y
   |_,_=>.a
  else .a
 |none=>.a
noncomputable def xM (j m:Nat) (a:List bt) (L:au) (Y:ar) (k:aj→au→ar→aT):aT:=match Y[j]?with
 |some i=>match(if(i.attrs.lookup m).isNone then oN i.cls m else ah) with
  |some g=>nr r (T.modes g).tail a L Y fun A L Y=>mz g (fS (an j)::A) L Y k
  |none=>.a
 |none=>.a
noncomputable def Av (a:bt) (m:Nat) (A:List bt) (L:au) (Y:ar) (k:aj→au→ar→aT):aT:=
 f2 r a L Y fun c L Y=>match c with
 |.slot x=>vu r x m A L Y k
 |.sq (.inst j)=>xM T r j m A L Y k
 |.sq (.box j x)=>if lx A then vQ r j x m A L Y k else .a
 |.sq (.e s)=>if m==5 then g2 r A L Y fun D L Y=>match D with
   |[y,d]=>e_ (ow y s d) fun d=>k d L Y
   |_=>.a
  else .a
 |_=>.a
noncomputable def qg (i:bt):Option (List bt):=match i with
 |.call g e=>cond (d3 g 11) (ac e) ah
 |_=>ah
noncomputable def qY (I:bt) (L:au) (Y:ar) (k:List aj→Option (Nat×Nat)→au→ar→aT):aT:=match qg I with
 |some [a]=>r.e a L Y fun d L Y=>match d with
  |.int n=>aT.b (.le n.natAbs 100000) fun b=>if b then k (f4 0 n) ah L Y else .a
  |_=>.a
 |some [a,b]=>r.e a L Y fun d L Y=>r.e b L Y fun e L Y=>match d,e with
  |.int i,.int n=>aT.b (.le (i.natAbs+n.natAbs) 100000) fun b=>if b then k (f4 i n) ah L Y else .a
  |_,_=>.a
 |some _=>.a
 |none=>f2 r I L Y fun c L Y=>match c with
  |.slot x=>match lJ x L with
   |some (d,L)=>match d.sq Y with
    |some q=>k (sb q) ah L Y
    |none=>.a
   |none=>.a
  |.sq (.box j x)=>match dR j x Y with
   |some (.c D)=>k D (ac (j,x)) L Y
   |_=>.a
  |.sq d=>match d.sq Y with
   |some q=>k (sb q) ah L Y
   |none=>.a
noncomputable def Bp:List bt→au→ar→(Bool→au→ar→aT)→aT
 |[],L,Y,k=>k af L Y
 |e::E,L,Y,k=>r.t e L Y fun b L Y=>if b then Bp E L Y k else k ai L Y
noncomputable def qS (x:List Nat) (L:au) (k:au→aT):aT:=if L.all (fun p=> !x.contains p.1||(match p.2 with|.l _=>af|_=>ai)) then k (L.filter fun p=> !x.contains p.1) else .a
noncomputable def qG (t:eX) (d:aj) (L:au) (k:au→aT):aT:=match Dg t d L with
 |some L=>k L
 |none=>.a
noncomputable def sY (e:bt) (t:eX) (i:List bt) (d:aj) (L:au) (Y:ar):aT:=qS (fM t) L fun L=>qG t d L fun L=>Bp r i L Y fun b L Y=>
 if b then r.e e L Y fun v L Y=>qS (fM t) L fun L=>dW (.h (.c [v])) L Y else qS (fM t) L fun L=>dW (.h (.c [])) L Y
noncomputable def qe (e:bt) (t:eX) (i:List bt):List aj→au→ar→(List aj→au→ar→aT)→aT
 |[],L,Y,k=>k [] L Y
 |d::D,L,Y,k=>(sY r e t i d L Y).bind fun f=>match f.1 with
  |.h (.c v)=>qe e t i D f.2.1 f.2.2 fun w L Y=>k (v++w) L Y
  |_=>.a
noncomputable def wM (e:bt) (t:eX) (i:bt) (I:List bt) (L:au) (Y:ar) (k:List aj→au→ar→aT):aT:=
 qY r i L Y fun d b L Y=>match b with
 |none=>aT.b (.le d.length b4) fun v=>if v then l1 (rJ lv ⟨e,I,t,d,L,Y⟩) fun f L Y=>match f with
   |.h (.c V)=>k V L Y
   |_=>.a
  else .a
 |some _=>.a
end
section
variable(T:g_) (lv:Nat) (r:gv)
noncomputable def qM:bt→au→ar→(aj→au→ar→aT)→aT
 |.v,_,_,_=>.a
 |.h d,L,Y,k=>k d L Y
 |.f x,L,Y,k=>match bG x L with
  |some (.l d)=>k d L Y
  |some (.own c)=>k c.frz (fZ x (.l c.frz) L) Y
  |_=>.a
 |.w o a b,L,Y,k=>r.e a L Y fun j L Y=>r.e b L Y fun f L Y=>e_ (.w o j f) fun d=>k d L Y
 |.q a,L,Y,k=>r.e a L Y fun d L Y=>aT.b (hG d) fun b=>k (aA !b) L Y
 |.k o a b,L,Y,k=>wj r o a b L Y fun b L Y=>k (aA b) L Y
 |.s p q a b c,L,Y,k=>if(oY q 0 0).isSome then r.e a L Y fun j L Y=>r.e b L Y fun f L Y=>aT.b (.s p j f) fun v=>
   if v then r.e c L Y fun w L Y=>aT.b (.s q f w) fun v=>k (aA v) L Y else k (aA ai) L Y
  else .a
 |.and e,L,Y,k=>wg r af e L Y k
 |.or e,L,Y,k=>wg r ai e L Y k
 |.l c a b,L,Y,k=>r.t c L Y fun v L Y=>if v then r.e a L Y k else r.e b L Y k
 |.j e,L,Y,k=>if e.length≤1000 then g2 r e L Y fun D L Y=>k (.j D) L Y else .a
 |.list e,L,Y,k=>if e.length≤1000 then g2 r e L Y fun D L Y=>k (.c D) L Y else .a
 |.y,L,Y,k=>k (.e []) L Y
 |.sub a i,L,Y,k=>f2 r a L Y fun c L Y=>if !c.box||i.simple then r.e i L Y fun d L Y=>i3 c L Y fun q=>e_ (.get q d) fun v=>k v L Y else .a
 |.n a n u,L,Y,k=>f2 r a L Y fun c L Y=>if !c.box||(nl n&&nl u) then qb r n L Y fun l L Y=>qb r u L Y fun h L Y=>
   i3 c L Y fun q=>e_ (.cut l h q) fun v=>k v L Y else .a
 |.attr a x,L,Y,k=>qu r a x L Y fun t L Y=>match t.2 with
  |.l d=>k d L Y
  |.box _=>if jp t.1 x then k (da t.1 x) L Y else .a
 |.call g A,L,Y,k=>vC T r g A L Y k
 |.u a m A,L,Y,k=>Av T r a m A L Y k
 |.comp E t I s,L,Y,k=>wM lv r E t I s L Y fun D L Y=>k (.c D) L Y
noncomputable def AR:bt→au→ar→(Bool→au→ar→aT)→aT
 |.q a,L,Y,k=>r.t a L Y fun b L Y=>k (!b) L Y
 |.and e,L,Y,k=>uL r af e L Y k
 |.or e,L,Y,k=>uL r ai e L Y k
 |.k o a b,L,Y,k=>wj r o a b L Y k
 |.l c a b,L,Y,k=>r.t c L Y fun v L Y=>if v then r.t a L Y k else r.t b L Y k
 |.f x,L,Y,k=>match bG x L with
  |some (.l d)=>aT.b (hG d) fun b=>k b L Y
  |some (.own c)=>aT.b (hG c.frz) fun b=>k b L Y
  |some (.a c)=>aT.b (hG c.frz) fun b=>k b L Y
  |none=>.a
 |a,L,Y,k=>r.e a L Y fun d L Y=>aT.b (hG d) fun b=>k b L Y
noncomputable def jv (x:Nat) (s:il) (L:au) (k:au→aT):aT:=if j5 x L then .a else k (fZ x s L)
noncomputable def l8 (j x:Nat) (v:ic) (Y:ar) (k:ar→aT):aT:=match nq j x v Y with
 |some Y=>k Y
 |none=>.a
noncomputable def pg (d:aj) (k:Nat→aT):aT:=match d with
 |.inst j=>k j
 |_=>.a
noncomputable def oM (ns:List Nat) (L:au):Option au:=if L.all (fun p=>ns.contains p.1||(match p.2 with|.a _=>ai|_=>af)) then ac (L.filter fun p=>ns.contains p.1) else ah
noncomputable def jK (ns:List Nat) (L:au) (k:au→aT):aT:=match oM ns L with
 |some L=>k L
 |none=>.a
noncomputable def sv (c:ar→Bool) (ns:List Nat) (g:au→ar→aT) (k:cR→au→ar→aT) (f:d1):aT:=match f.1 with
 |.h d=>jK ns f.2.1 fun L=>k (.h d) L f.2.2
 |.o=>jK ns f.2.1 fun L=>k a' L f.2.2
 |_=>if c f.2.2 then jK ns f.2.1 fun L=>g L f.2.2 else .a
noncomputable def uP (b:List ej) (t:eX) (d:aj) (L:au) (Y:ar):aT:=qG t d L fun L=>r.ss b L Y dW
noncomputable def sx (c:bt) (B:List ej) (L:au) (Y:ar):aT:=r.t c L Y fun b L Y=>if b then r.ss B L Y dW else dW .o L Y
noncomputable def kI (b:List ej) (t:eX) (c:ar→Bool) (ns:List Nat):List aj→au→ar→(cR→au→ar→aT)→aT
 |[],L,Y,k=>k a' L Y
 |d::D,L,Y,k=>(uP r b t d L Y).bind (sv c ns (fun L Y=>kI b t c ns D L Y k) k)
noncomputable def l3 (c:bt) (b:List ej) (ns:List Nat) (k:cR→au→ar→aT):Nat→au→ar→aT
 |0,_,_=>.a
 |n+1,L,Y=>(sx r c b L Y).bind (sv (fun _=>af) ns (l3 c b ns k n) k)
noncomputable def qw (x:Nat) (c:b0) (L:au) (Y:ar) (k:cR→au→ar→aT):aT:=match jt x c L with
 |some L=>k a' L Y
 |none=>.a
noncomputable def nL (q x:Nat) (c:b0) (L:au) (Y:ar) (k:cR→au→ar→aT):aT:=match gk q x (b1 c) Y with
 |some Y=>k a' L Y
 |none=>.a
noncomputable def u5 (v j:aj) (c:nM) (L:au) (Y:ar) (k:cR→au→ar→aT):aT:=match c with
 |.slot x=>match gV x L with
  |some c=>aT.c (ou c j v) fun _ c=>qw x c L Y k
  |none=>.a
 |.sq (.box q x)=>match dR q x Y with
  |some c=>aT.c (ou c j v) fun _ c=>nL q x c L Y k
  |none=>.a
 |_=>.a
noncomputable def OM (j:aj) (q x:Nat) (L:au) (Y:ar) (k:cR→au→ar→aT):aT:=match dR q x Y with
 |some (.e s)=>aT.c (ov j s) fun _ c=>nL q x c L Y k
 |_=>.a
noncomputable def Lm (j:aj) (q x:Nat) (L:au) (Y:ar) (k:cR→au→ar→aT):aT:=match dR q x Y with
 |some (.c d)=>aT.c (rH j d) fun _ c=>nL q x c L Y k
 |_=>.a
noncomputable def Cn:ej→au→ar→(cR→au→ar→aT)→aT
 |.v,_,_,_=>.a
 |.d e,L,Y,k=>r.e e L Y fun d L Y=>if Gc d then k a' L Y else .a
 |.h e,L,Y,k=>r.e e L Y fun d L Y=>k (.h d) L Y
 |.set x e,L,Y,k=>r.e e L Y fun d L Y=>jv x (.l d) L fun L=>k a' L Y
 |.g x E,L,Y,k=>if E.length≤1000 then g2 r E L Y fun D L Y=>jv x (bE (.c D)) L fun L=>k a' L Y else .a
 |.p x,L,Y,k=>jv x (bE (.e [])) L fun L=>k a' L Y
 |.j x f t I g,L,Y,k=>wM lv r f t I g L Y fun D L Y=>jv x (bE (.c D)) L fun L=>k a' L Y
 |.u x a,L,Y,k=>r.e a L Y fun d L Y=>match d with
  |.e s=>aT.b (.c s) fun b=>if b then jv x (bE (.e s)) L fun L=>k a' L Y else .a
  |_=>.a
 |.names X e,L,Y,k=>r.e e L Y fun d L Y=>qG (.b X) d L fun L=>k a' L Y
 |.attr a x e,L,Y,k=>r.e e L Y fun v L Y=>r.e a L Y fun d L Y=>pg d fun j=>l8 j x (.l v) Y fun Y=>k a' L Y
 |.k a x E,L,Y,k=>if E.length≤1000 then g2 r E L Y fun D L Y=>r.e a L Y fun d L Y=>pg d fun j=>l8 j x (b1 (.c D)) Y fun Y=>k a' L Y else .a
 |.n a x,L,Y,k=>r.e a L Y fun d L Y=>pg d fun j=>l8 j x (b1 (.e [])) Y fun Y=>k a' L Y
 |.sub a i e,L,Y,k=>r.e e L Y fun v L Y=>f2 r a L Y fun c L Y=>if !c.box||i.simple then r.e i L Y fun j L Y=>u5 v j c L Y k else .a
 |.B x o e,L,Y,k=>match lJ x L with
  |some (a,L)=>r.e e L Y fun b L Y=>e_ (.B o a b) fun d=>jv x (.l d) L fun L=>k a' L Y
  |none=>.a
 |.q a x o e,L,Y,k=>r.e a L Y fun d L Y=>pg d fun j=>match ib j x Y with
  |some (.l v)=>r.e e L Y fun b L Y=>e_ (.B o v b) fun d=>l8 j x (.l d) Y fun Y=>k a' L Y
  |_=>.a
 |.f t I B,L,Y,k=>qY r I L Y fun D b L Y=>if b.isNone||kD B then l1 (.a lv ⟨B,ah,t,b,D,L,Y⟩) k else .a
 |.m c B,L,Y,k=>l1 (.a lv ⟨B,ac c,.b [],ah,[],L,Y⟩) k
 |.l c a b,L,Y,k=>r.t c L Y fun v L Y=>if v then r.ss a L Y k else r.ss b L Y k
 |.del a i,L,Y,k=>f2 r a L Y fun c L Y=>match c with
  |.sq (.box q x)=>if i.simple then r.e i L Y fun j L Y=>OM j q x L Y k else .a
  |_=>.a
 |.w a l,L,Y,k=>f2 r a L Y fun c L Y=>match c with
  |.sq (.box q x)=>if l.simple then r.e l L Y fun j L Y=>Lm j q x L Y k else .a
  |_=>.a
 |.y,L,Y,k=>k a' L Y
 |.o,L,Y,k=>k .o L Y
 |.cont,L,Y,k=>k iz L Y
noncomputable def zc:List ej→au→ar→(cR→au→ar→aT)→aT
 |[],L,Y,k=>k a' L Y
 |s::J,L,Y,k=>Cn lv r s L Y fun f L Y=>match f with
  |.next=>zc J L Y k
  |f=>k f L Y
end
noncomputable def eY (T:g_):Nat→gv
 |0=>⟨fun _ _ _ _=>.a,fun _ _ _ _=>.a,fun _ _ _ _=>.a⟩
 |n+1=>⟨qM T n (eY T n),AR (eY T n),zc n (eY T n)⟩
inductive lg where
 |d (v:aj)
 |b (v:Bool)
 |c (d:aj) (c:b0)
 |call (d:aj) (cs:List b0) (Y:ar)
 |sub (f:cR) (L:au) (Y:ar)
inductive eI where
 |d (o:vW)
 |b (o:wk)
 |c (o:xB)
 |call (g:Nat) (a:List fO) (Y:ar)
 |sub (s:kr)
structure dT where
 call:Nat→List fO→ar→aj→List b0→ar→Prop
 sub:kr→cR→au→ar→Prop
noncomputable def aQ (X:dT) (Z:d1→Prop):aT→Prop
 |.a=>False
 |.h f=>Z f
 |.d o k=>∃v,o.e=ac v∧aQ X Z (k v)
 |.b o k=>∃v,o.e=ac v∧aQ X Z (k v)
 |.c o k=>∃d v,o.e=ac (d,v)∧aQ X Z (k d v)
 |.call g a Y k=>∃d c S,X.call g a Y d c S∧aQ X Z (k d c S)
 |.sub s k=>∃f L Y,X.sub s f L Y∧aQ X Z (k f L Y)
theorem z9:aQ X Z (t.bind K)↔aQ X (fun f=>aQ X Z (K f)) t:=t.rec .rfl (fun f=>.rfl) (fun o k i=>k3 fun v=>uj fun _=>i v) (fun o k i=>k3 fun v=>uj fun _=>i v) (fun o k i=>k3 fun d=>k3 fun v=>uj fun _=>i d v) (fun g a Y k i=>k3 fun d=>k3 fun c=>k3 fun Y=>uj fun _=>i d c Y) fun s k i=>k3 fun f=>k3 fun L=>k3 fun Y=>uj fun _=>i f L Y
theorem p8 (h:aQ X (fun f=>aQ X Z (K f)) t):aQ X Z (t.bind K):=z9.mpr h
theorem wS (h:aQ X Z (t.bind K)):aQ X (fun f=>aQ X Z (K f)) t:=z9.mp h
abbrev jy:=List (Nat×lg)
noncomputable def vq (o:eI):Option (List eI×aT)→Option (List eI×aT)
 |some (s,f)=>ac (o::s,f)
 |none=>ah
noncomputable def lg.gD:lg→Option aj
 |.d v=>ac v
 |_=>ah
noncomputable def lg.gB:lg→Option Bool
 |.b v=>ac v
 |_=>ah
noncomputable def lg.gC:lg→Option (aj×b0)
 |.c x v=>ac (x,v)
 |_=>ah
noncomputable def lg.e:lg→Option (aj×List b0×ar)
 |.call x C Y=>ac (x,C,Y)
 |_=>ah
noncomputable def lg.a:lg→Option d1
 |.sub f L Y=>ac (f,L,Y)
 |_=>ah
noncomputable def jy.a:jy→jy
 |[]=>[]
 |(n,w)::s=>(n-1,w)::s
noncomputable def An:jy→Option (lg×jy)
 |(0,w)::s=>ac (w,s)
 |_=>ah
noncomputable def nG (o:eI) (g:lg→Option a) (x:Option a) (t:aT) (k:a→jy→Nat→Option (List eI×aT)) (s:jy) (j:Nat):Option (List eI×aT):=match An s with
 |some p=>(g p.1).elim ah fun v=>vq o (k v p.2 j)
 |none=>ER (x.elim ah fun v=>k v s.a (j-1)) (ac ([],t)) (s.isEmpty&&d3 j 0)
noncomputable def u7 (t:aT) (S:jy) (j:Nat):Option (List eI×aT):=aT.rec (fun _ _=>ah) (fun f S _=>ER ah (ac ([],.h f)) S.isEmpty)
 (fun o k i S j=>nG (.d o) lg.gD o.e (e_ o k) i S j) (fun o k i S j=>nG (.b o) lg.gB o.e (.b o k) i S j) (fun o k i S j=>nG (.c o) lg.gC o.e (.c o k) (fun v=>i v.1 v.2) S j)
 (fun g a Y k i S j=>nG (.call g a Y) lg.e ah (pS g a Y k) (fun v=>i v.1 v.2.1 v.2.2) S j) (fun s k i S j=>nG (.sub s) lg.a ah (l1 s k) (fun v=>i v.1 v.2.1 v.2.2) S j) t S j
noncomputable def yQ (r:Option (List eI×aT)):Option (List eI×d1):=r.bind fun p=>match p.2 with
 |.h f=>ac (p.1,f)
 |_=>ah
noncomputable def nB (t:aT) (s:jy):Option (List eI×d1):=yQ (u7 t s 1000000)
noncomputable def eI.ok (X:dT):eI→lg→Prop
 |.d o,v=>o.e=v.gD∧v.gD.isSome
 |.b o,v=>o.e=v.gB∧v.gB.isSome
 |.c o,v=>o.e=v.gC∧v.gC.isSome
 |.call g a Y,v=>∃p,v.e=ac p∧X.call g a Y p.1 p.2.1 p.2.2
 |.sub s,v=>∃p,v.a=ac p∧X.sub s p.1 p.2.1 p.2.2
structure cN (X:dT) where
 aa:eI
 l:lg
 ok:aa.ok X l
noncomputable def pj (X:dT):jy→List eI→Prop
 |[],[]=>True
 |p::s,o::a=>o.ok X p.2∧pj X s a
 |_,_=>False
theorem pj.a {os:List eI} (h:pj X s os):pj X s.a os:=by
 cases s with
 |nil=>exact h
 |cons p s=>cases os with
  |nil=>exact h
  |cons o os=>exact h
theorem MV {os:List eI} (h:vq o y=ac (os,f)):∃c,y=ac (c,f)∧os=o::c:=by
 induction y with
 |none=>exact iC h
 |some q=>injection h with h;injection h with a b;subst a b;exact⟨_,rfl,rfl⟩
theorem qK {o:eI} {os:List eI} {P:u→Prop} {G:Prop} (h:nG o g x t k s j=ac (os,t')) (d:pj X s os)
  (l:∀w v,g w=ac v→o.ok X w→P v) (m:∀v,x=ac v→P v) (r:t=t'→G) (q:∀v S j c,P v→k v S j=ac (c,t')→pj X S c→G):G:=by
 unfold nG at h;cases a:An s with
 |none=>
  rw[a] at h;have h:(ER (x.elim ah fun v=>k v s.a (j-1)) (ac ([],t)) (s.isEmpty&&d3 j 0):Option (List eI×aT))=ac (os,t'):=h;cases b:s.isEmpty&&d3 j 0 with
  |true=>rw[b] at h;injection h with h;injection h with _ h;exact r h
  |false=>
   rw[b] at h;induction x with
   |none=>exact iC h
   |some v=>exact q v _ _ _ (m v rfl) h d.a
 |some p=>
  rw[a] at h;have h:(g p.1).elim ah (fun v=>vq o (k v p.2 j))=ac (os,t'):=h;cases f:g p.1 with
  |none=>rw[f] at h;exact iC h
  |some v=>
   rw[f] at h;refine(MV h).elim fun c i=> ?_;have e:=i.2;subst e;rcases s with _|⟨⟨_|n,w⟩,s⟩
   ·exact iC a
   ·injection a with a;subst a;exact q v _ _ _ (l _ v f d.1) i.1 d.2
   ·exact iC a
theorem BU (z:aQ X Z t') (t:aT):∀{S:jy} {j:Nat} {os:List eI},u7 t S j=ac (os,t')→pj X S os→aQ X Z t:=by
 induction t with
 |a=>exact fun l=>iC l
 |h f=>
  intro S j os l _;rcases S with _|⟨_,_⟩
  ·injection l with l;injection l with _ l;exact l▸z
  ·exact iC l
 |d o k i=>exact fun l g=>qK l g (P:=fun v=>o.e=ac v) (fun w v e p=>p.1.trans e) (fun _ l=>l) (fun e=>e▸z) fun v _ _ _ e l g=>⟨v,e,i v l g⟩
 |b o k i=>exact fun l g=>qK l g (P:=fun v=>o.e=ac v) (fun w v e p=>p.1.trans e) (fun _ l=>l) (fun e=>e▸z) fun v _ _ _ e l g=>⟨v,e,i v l g⟩
 |c o k i=>exact fun l g=>qK l g (P:=fun v=>o.e=ac v) (fun w v e p=>p.1.trans e) (fun _ l=>l) (fun e=>e▸z) fun v _ _ _ e l g=>⟨v.1,v.2,e,i v.1 v.2 l g⟩
 |call G A Y k i=>exact fun l g=>qK l g (P:=fun p=>X.call G A Y p.1 p.2.1 p.2.2) (fun w v e p=>p.elim fun p q=>bD (q.1.symm.trans e)▸q.2) (fun _ l=>iC l) (fun e=>e▸z) fun v _ _ _ e l g=>⟨v.1,v.2.1,v.2.2,e,i _ _ _ l g⟩
 |sub s k i=>exact fun l g=>qK l g (P:=fun p=>X.sub s p.1 p.2.1 p.2.2) (fun w v e p=>p.elim fun p q=>bD (q.1.symm.trans e)▸q.2) (fun _ l=>iC l) (fun e=>e▸z) fun v _ _ _ e l g=>⟨v.1,v.2.1,v.2.2,e,i _ _ _ l g⟩
theorem NZ {os:List eI} (h:yQ r=ac (os,f)):r=ac (os,.h f):=by
 rcases r with _|⟨o,t⟩
 ·exact iC h
 ·induction t with
  |h F=>injection h with h;injection h with a b;exact a▸b▸rfl
  |_=>exact iC h
noncomputable def lH (k:Nat) (s:List (cN X)):jy:=yC (fun _=>[]) (fun f _ i k=>(k%16,f.l)::i (k/16)) s k
noncomputable def lw (s:List (cN X)):List eI:=s.map (·.aa)
theorem yL (s:List (cN X)):∀{k},pj X (lH k s) (lw s):=by
 induction s with
 |nil=>exact trivial
 |cons p s i=>exact⟨p.ok,i⟩
theorem rT {Z:d1→Prop} (k:Nat) (s:List (cN X)) (h:nB t (lH k s)=ac (lw s,f)) (z:Z f):aQ X Z t:=BU (t':=.h f) z t (NZ h) (yL s)
theorem jT (j k:Nat) (s:List (cN X)) (h:u7 t (lH k s) j=ac (lw s,t')) (z:aQ X Z t'):aQ X Z t:=BU z t h (yL s)
abbrev kz:=Nat→List fO→ar→aj→List b0→ar→Prop
noncomputable def kr.b:kr→Nat
 |.a k _=>k
 |.comp k _=>k
noncomputable def qH (T:g_):kr→aT
 |.a k p=>match p.c with
  |none=>kI (eY T k) p.body p.t (gy p.b p.d) (p.L.map (·.1)) p.d p.L p.st dW
  |some c=>l3 (eY T k) c p.body (p.L.map (·.1)) dW pi p.L p.st
 |.comp k p=>qe (eY T k) p.a p.t p.b p.d p.L p.st fun v L Y=>dW (.h (.c v)) L Y
noncomputable def dw (T:g_) (Φ:kz):Nat→dT
 |0=>⟨Φ,fun _ _ _ _=>False⟩
 |m+1=>⟨Φ,fun s f L Y=>(dw T Φ m).sub s f L Y∨(s.b=m∧aQ (dw T Φ m) (·=(f,L,Y)) (qH T s))⟩
def cc (T:g_) (Φ:kz) (s:kr) (f:cR) (L:au) (Y:ar):Prop:=aQ (dw T Φ s.b) (·=(f,L,Y)) (qH T s)
theorem Gg {T:g_} {Φ:kz} {s:kr} {f:cR} {L:au} {Y:ar} (h:cc T Φ s f L Y) {m:Nat} (a:s.b<m):(dw T Φ m).sub s f L Y:=a.rec (aI ⟨rfl,h⟩) fun _ i=>av i
theorem yM {T:g_} {Φ:kz} {m:Nat}:(dw T Φ m).call=Φ:=by induction m using ir<;>rfl
section
variable{X:dT}
noncomputable def cN.call {T:g_} {Φ:kz} {m g:Nat} {a:List fO} {Y st':ar} {d:aj} {cs:List b0} (h:Φ g a Y d cs st'):cN (dw T Φ m):=⟨.call g a Y,.call d cs st',(d,cs,st'),rfl,yM (m:=m)▸h⟩
noncomputable def cN.sub {T:g_} {Φ:kz} {m:Nat} {s:kr} {f:cR} {L:au} {Y:ar} (h:cc T Φ s f L Y) (a:fx (s.b+1) m=true:=by rfl):cN (dw T Φ m):=⟨.sub s,.sub f L Y,(f,L,Y),rfl,Gg h (lM a)⟩
noncomputable def cN.F {o:vW} {v:aj} (h:o.e=ac v):cN X:=⟨.d o,.d v,h,rfl⟩
noncomputable def cN.z {o:wk} {v:Bool} (h:o.e=ac v):cN X:=⟨.b o,.b v,h,rfl⟩
noncomputable def cN.I {o:xB} {d:aj} {v:b0} (h:o.e=ac (d,v)):cN X:=⟨.c o,.c d v,h,rfl⟩
noncomputable def cN.get {q:fN} {d v:aj} (h:eA q d=ac v):cN X:=.F (o:=.get q d) h
noncomputable def cN.cut {a b:Option Int} {q:fN} {v:aj} (h:f7 a b q=ac v):cN X:=.F (o:=.cut a b q) h
noncomputable def cN.w {c:m7} {a b v:aj} (h:eJ c a b=ac v):cN X:=.F (o:=.w c a b) h
noncomputable def cN.has {q:fN} {d:aj} {v:Bool} (h:cX d q=ac v):cN X:=.z (o:=.has d q) h
noncomputable def cN.B {o:m7} {a b v:aj} (h:(vW.B o a b).e=ac v):cN X:=.F h
noncomputable def cN.u {m:Nat} {c a:b0} {ds:List aj} {d:aj} (h:fJ m c ds=ac (d,a)):cN X:=.I (o:=.u m c ds) h
noncomputable def cN.le {n m:Nat} (h:n≤m):cN X:=.z (o:=.le n m) (v:=af) (by show ac (aM (n≤m))=_;rw[cu h])
noncomputable def cN.eq {i j:Int} (h:i=j):cN X:=.z (o:=.k a6 (ae i) (ae j)) (v:=af) (by show ac (i==j)=_;rw[h];simp)
noncomputable def cN.C {i j:Int} (h:¬i=j):cN X:=.z (o:=.k a6 (ae i) (ae j)) (v:=ai) (by show ac (i==j)=_;rw[c5.mpr h])
end
structure iR where
 params:List Nat
 dflts:List aj
 body:List ej
noncomputable def p6:au→List Nat→List fO→Option (List b0)
 |L,p::H,.l _::a=>p6 L H a
 |L,p::H,.a _::a=>match bG p L with
  |some (.a c)=>(p6 L H a).map (c::·)
  |_=>ah
 |_,_,_=>ac []
noncomputable def j':List Nat→List fO→List aj→Option au
 |H,[],df=>if df.length<H.length then ah else ac (H.zip ((df.drop (df.length-H.length)).map il.l))
 |p::H,.l d::a,df=>(j' H a df).map ((p,.l d)::·)
 |p::H,.a c::a,df=>(j' H a df).map ((p,.a c)::·)
 |[],_::_,_=>ah
def tE (q:iR) (a:List fO) (d:aj) (cs:List b0) (st':ar) (f:d1):Prop:=(match f.1 with|.h v=>v=d|.next=>d=a4|_=>False)∧p6 f.2.1 q.params a=ac cs∧f.2.2=st'
noncomputable def o4 (T:g_) (df:Nat→Option iR):Nat→kz
 |0,_,_,_,_,_,_=>False
 |n+1,g,a,Y,d,c,s=>∃q f,df g=ac q∧j' q.params a q.dflts=ac f∧aQ (dw T (o4 T df n) 60) (tE q a d c s) ((eY T 60).ss q.body f Y dW)
abbrev tA:=Option (List eI×d1)
noncomputable def y0:cR→Option aj
 |.h d=>ac d
 |.next=>ac a4
 |_=>ah
noncomputable def v6 (q:iR) (a:List fO) (x:tA):Option (List eI×aj×Option (List b0)×ar):=x.bind fun p=>(y0 p.2.1).map fun d=>(p.1,d,p6 p.2.2.1 q.params a,p.2.2.2)
noncomputable def vA (ns:List Nat) (x:tA):Option (List eI×cR×Option au×ar):=x.map fun p=>(p.1,p.2.1,oM ns p.2.2.1,p.2.2.2)
theorem Ab {q:iR} {a:List fO} {x:tA} {os:List eI} {d:aj} {cs:List b0} {Y:ar} (h:v6 q a x=ac (os,d,ac cs,Y)):∃f,x=ac (os,f)∧tE q a d cs Y f:=by
 refine(jG.mp h).elim fun p h=>(dg.mp h.2).elim fun v k=> ?_;have e:y0 p.2.1=ac d:=k.1.trans (aS (fun q=>ac q.2.1) k.2);refine⟨p.2,h.1.trans (aS (fun q=>ac (q.1,p.2)) k.2), ?_,aS (·.2.2.1) k.2,aS (·.2.2.2) k.2⟩;generalize p.2.1=f at e;cases f with
 |h v=>exact bD e
 |next=>exact(bD e).symm
 |_=>exact iC e
theorem KL {ns:List Nat} {x:tA} {os:List eI} {f:cR} {M:Option au} {Y:ar} (h:vA ns x=ac (os,f,M,Y)):∃L,x=ac (os,f,L,Y)∧oM ns L=M:=
 (dg.mp h).elim fun p k=>⟨p.2.2.1,k.1.trans (aS (fun q=>ac (q.1,q.2.1,p.2.2.1,q.2.2.2)) k.2),aS (·.2.2.1) k.2⟩
section
variable(T:g_) (df:Nat→Option iR)
noncomputable def FD (n g:Nat) (a:List fO) (Y:ar) (s:jy):Option (List eI×aj×Option (List b0)×ar):=(df g).bind fun q=>(j' q.params a q.dflts).bind fun f=>v6 q a (nB ((eY T 60).ss q.body f Y dW) s)
theorem aw {T:g_} {df:Nat→Option iR} {n g:Nat} {a:List fO} {Y st':ar} {d:aj} {cs:List b0} (k:Nat) (s:List (cN (dw T (o4 T df n) 60))) (h:FD T df n g a Y (lH k s)=ac (lw s,d,ac cs,st'):=by kernel_rfl):o4 T df (n+1) g a Y d cs st':=
 (jG.mp h).elim fun q h=>(jG.mp h.2).elim fun r k=>(Ab k.2).elim fun f z=>⟨q,r,h.1,k.1,rT _ s z.1 z.2⟩
def zo (k g:Nat) (a:List fO) (Y:ar) (d:aj) (cs:List b0) (st':ar):Prop:=∀n,k≤n→o4 T df n g a Y d cs st'
theorem zo.of {k g:Nat} {a:List fO} {Y st':ar} {d:aj} {cs:List b0} (h:∀n,k≤n→o4 T df (n+1) g a Y d cs st'):zo T df (k+1) g a Y d cs st':=fun n b=>match n,b with
 |n+1,b=>h n (q9 b)
end
theorem wI {X:dT} {Z:d1→Prop} {t:aT}:aQ X Z t→∃f,Z f∧aQ X (·=f) t:=t.rec EL (fun f=>fun h=>⟨f,h,rfl⟩) (fun o k i=>fun h=>ay h fun v a h=>(i v h).imp fun f h=>⟨h.1,v,a,h.2⟩) (fun o k i=>fun h=>ay h fun v a h=>(i v h).imp fun f h=>⟨h.1,v,a,h.2⟩) (fun o k i=>fun h=>bK h fun d v a h=>(i d v h).imp fun f h=>⟨h.1,d,v,a,h.2⟩) (fun g A Y k i=>fun h=>hR h fun d c s a h=>(i d c s h).imp fun f h=>⟨h.1,d,c,s,a,h.2⟩) fun s k i=>fun h=>hR h fun g L s a h=>(i g L s h).imp fun f h=>⟨h.1,g,L,s,a,h.2⟩
def l_ (X:dT) (ns:List Nat) (t:aT) (f:cR) (M:au) (Y:ar):Prop:=∃k,∃s:List (cN X),vA ns (nB t (lH k s))=ac (lw s,f,ac M,Y)
theorem bq {X:dT} {ns:List Nat} {t:aT} {f:cR} {M:au} {Y:ar} (k:Nat) (s:List (cN X)) (h:vA ns (nB t (lH k s))=ac (lw s,f,ac M,Y):=by kernel_rfl):l_ X ns t f M Y:=⟨k,s,h⟩
theorem l_.wp {X:dT} {ns:List Nat} {t:aT} {f:cR} {M:au} {Y:ar} (h:l_ X ns t f M Y) {Z:d1→Prop} (z:∀L,oM ns L=ac M→Z (f,L,Y)):aQ X Z t:=h.elim fun k h=>h.elim fun s h=>(KL h).elim fun L q=>rT k s q.1 (z L q.2)
theorem xE {Z:d1→Prop} {X:dT} {ns:List Nat} {L l:au} {k:au→aT} (h:oM ns L=ac l) (z:aQ X Z (k l)):aQ X Z (jK ns L k):=by
 unfold jK;rw[h];exact z
noncomputable def qz:cR→cR
 |.o=>a'
 |f=>f
noncomputable def qt:cR→Bool
 |.o=>af
 |.h _=>af
 |_=>ai
section
variable{T:g_} {Φ:kz} {α:Type} {k:Nat} {body:List ej} {t:eX} {σ:Type} {F:List α→σ→au} {S:List α→σ→ar} {I:List α→σ→Prop}
theorem r9 {X:dT} {Z:d1→Prop} {ns:List Nat} {tr:aT} {M:au} {Y:ar} {C:ar→Bool} {g:au→ar→aT} {a:cR→au→ar→aT} {f:cR} (h:l_ X ns tr f M Y) (b:f=a'∨f=iz) (c:C Y=af) (z:aQ X Z (g M Y)):aQ X Z (tr.bind (sv C ns g a)):=p8 (h.wp fun L d=>by
 rcases b with rfl|rfl<;>
 ·show aQ X Z (if C Y=true then _ else _)
  rw[if_pos c];exact xE d z)
theorem A1 {X:dT} {Z:d1→Prop} {ns:List Nat} {tr:aT} {M:au} {Y:ar} {c:ar→Bool} {g:au→ar→aT} {f:cR} (h:l_ X ns tr f M Y) (a:qt f=af) (z:Z (qz f,M,Y)):aQ X Z (tr.bind (sv c ns g dW)):=p8 (h.wp fun L b=>by
 cases f with
 |o=>exact xE b z
 |h d=>exact xE b z
 |next=>cases a
 |cont=>cases a)
theorem O6 {X:dT} {Z:d1→Prop} {f:α→aj} {b:Option (Nat×Nat)} {ds:List aj} {ns:List Nat} {D:List α} {tail:List aj}
  (s:∀d j r1 x,D=d++j::r1→I d x→∃a l,I (d++[j]) a∧(l=a'∨l=iz)∧l_ X ns (uP (eY T k) body t (f j) (F d x) (S d x)) l (F (d++[j]) a) (S (d++[j]) a)∧gy b ds (S (d++[j]) a)=af)
  (z:∀x,I D x→aQ X Z (kI (eY T k) body t (gy b ds) ns tail (F D x) (S D x) dW)) (r1:List α):∀d x,D=d++r1→I d x→aQ X Z (kI (eY T k) body t (gy b ds) ns (r1.map f++tail) (F d x) (S d x) dW):=by
 induction r1 with
 |nil=>intro d x e h;rw[c8] at e;subst e;exact z x h
 |cons j r1 i=>exact fun d x e h=>ia (s d j r1 x e h) fun a l c g n m=>r9 n g m (i (d++[j]) a (e.trans (rk ..)) c)
end
theorem OF {X:dT} {Z:d1→Prop} {c:bt} {ns:List Nat} {σ:Type} {F:σ→au} {S:σ→ar} {I:σ→Prop} {b:σ→Nat} {k:Nat} {body:List ej} {T:g_}
  (s:∀x,I x→(∃a f,I a∧b a<b x∧(f=a'∨f=iz)∧l_ X ns (sx (eY T k) c body (F x) (S x)) f (F a) (S a))∨∃f M st',qt f=af∧l_ X ns (sx (eY T k) c body (F x) (S x)) f M st'∧Z (qz f,M,st')):
  ∀n x,I x→b x<n→aQ X Z (l3 (eY T k) c body ns dW n (F x) (S x)):=fun n=>n.rec (fun x _ h=>aR h (rn _)) fun n g=>fun x i h=>(s x i).elim (fun z=>ia z fun a f j m d e=>r9 e d rfl (g a j (ft m (iW h)))) fun z=>j9 z fun f M st' d e z=>A1 e d z
def iD (X:dT) (t:aT) (vs:List aj) (M:au) (Y:ar):Prop:=∃k,∃s:List (cN X),nB t (lH k s)=ac (lw s,.h (.c vs),M,Y)
theorem cZ {X:dT} {t:aT} {vs:List aj} {M:au} {Y:ar} (k:Nat) (s:List (cN X)) (h:nB t (lH k s)=ac (lw s,.h (.c vs),M,Y):=by kernel_rfl):iD X t vs M Y:=⟨k,s,h⟩
theorem iD.wp {X:dT} {t:aT} {vs:List aj} {M:au} {Y:ar} (h:iD X t vs M Y) {Z:d1→Prop} (z:Z (.h (.c vs),M,Y)):aQ X Z t:=h.elim fun k h=>h.elim fun s h=>rT k s h z
theorem IK {X:dT} {Z:d1→Prop} {α σ:Type} {f:α→aj} {E:bt} {i:List bt} {t:eX} {k:Nat} {T:g_} {V:List α→σ→List aj} {F:List α→σ→au} {S:List α→σ→ar} {I:List α→σ→Prop} {l:List α}
  (s:∀d j r1 x,l=d++j::r1→I d x→∃a vs,I (d++[j]) a∧V (d++[j]) a=V d x++vs∧iD X (sY (eY T k) E t i (f j) (F d x) (S d x)) vs (F (d++[j]) a) (S (d++[j]) a)) {K:List aj→au→ar→aT}:
  ∀r1 d x,l=d++r1→I d x→(∀y us,I l y→V l y=V d x++us→aQ X Z (K us (F l y) (S l y)))→aQ X Z (qe (eY T k) E t i (r1.map f) (F d x) (S d x) K):=by
 intro r1;induction r1 generalizing K with
 |nil=>intro d x e h z;rw[c8] at e;subst e;exact z x [] h (c8 _).symm
 |cons j r1 b=>exact fun d x e h z=>cE (s d j r1 x e h) fun a vs c v n=>p8 (n.wp (b (d++[j]) a (e.trans (rk ..)) c fun y us g u=>z y (vs++us) g (by rw[u,v,ef])))
theorem eO {α:Type} {l d r:List α} {j:α} (e:l=d++j::r):j∈l:=e▸eD _ (kZ ..)
noncomputable def PA (g:Nat):List Bool:=if[168,170,277,279,280,283,284,294].contains g then[af] else if g=169 then[ai,af] else[]
theorem lm {d e:aj} (h:ai=af):d=e:=hU h
theorem xp (d:aj):∀e:aj,aj.beq d e=af→d=e:=by
 refine aj.rec (motive_1:=fun d=>∀e,aj.beq d e=af→d=e) (motive_2:=fun l=>∀m,hJ l m=af→l=m) (motive_3:=fun _=>True) (motive_4:=fun _=>True) ?_ ?_ ?_ ?_ ?_ ?_ ?_ ?_ ?_ ?_ ?_ trivial (fun _ _ _ _=>trivial) (fun _ _ _ _=>trivial) d
 ·intro e;induction e using aj.casesOn<;>first|exact lm|exact fun _=>rfl
 ·intro a e;induction e using aj.casesOn<;>first|exact lm|exact fun h=>aS _ (iv h)
 ·intro a e;induction e using aj.casesOn<;>first|exact lm|exact fun h=>aS _ (iv h)
 ·intro a e;induction e using aj.casesOn<;>first|exact lm|exact fun h=>aS _ (iv h)
 ·intro a i e;induction e using aj.casesOn<;>first|exact lm|exact fun h=>aS _ (i _ h)
 ·intro a i e;induction e using aj.casesOn<;>first|exact lm|exact fun h=>aS _ (i _ h)
 ·intro a i e;induction e using aj.casesOn<;>exact lm
 ·intro a e;induction e using aj.casesOn<;>first|exact lm|exact fun h=>aS _ (iv h)
 ·intro a x e;induction e using aj.casesOn<;>first|exact lm|exact fun h=>congr (aS _ (iv (bS.mp h).1)) (iv (bS.mp h).2)
 ·intro m h;induction m using cn with
  |nil=>rfl
  |cons _ _=>exact hU h
 ·intro d r b c m h;induction m using cn with
  |nil=>exact hU h
  |cons e t=>exact congr (aS _ (b e (bS.mp h).1)) (c t (bS.mp h).2)
theorem Hc (d e:List aj) (h:hJ d e=af):d=e:=aj.c.inj (xp (.c d) (.c e) h)
theorem IP (n:Nat):∀d:aj,aj.key n d=af→aj.beq d d=true:=by
 induction n with
 |zero=>exact fun d h=>by cases d<;>first|exact beq_self_eq_true _|exact absurd h Bool.false_ne_true
 |succ n I=>
   intro d h;cases d with
   |int i=>exact iX i
   |str s=>exact iX s
   |j D=>
    have a:∀l:List aj,(∀d∈l,aj.key n d=af)→hJ l l=true:=fun l=>by
     induction l with
     |nil=>exact fun _=>rfl
     |cons d r b=>exact fun h=>bS.mpr ⟨I d (h d (cU _)),b fun x c=>h x (e9 _ c)⟩
    exact a D (cH.mp h)
   |_=>exact aR h cp
theorem lz (d e:aj) (n:Nat) (h:aj.key n d=af):aj.beq d e=af↔d=e:=⟨xp d e,fun q=>q▸IP n d h⟩
noncomputable def qm:List (Nat×iR):=[
(157,⟨[1,2,3],[ae 0],[.h (.u (.f 1) 7 [.j [.h (ae 3),.f 2,.f 3]])]⟩),
(158,⟨[1,4,3],[ae 0],[.h (.u (.f 1) 7 [.j [.h (ae 4),.f 4,.f 3]])]⟩),
(159,⟨[1,5,3],[ae 0],[.h (.u (.f 1) 7 [.j [.h (ae 2),.l (.f 5) (.h (ae 1)) (.h (ae 0)),.f 3]])]⟩),
(160,⟨[1,6,7],[ae 0],[.h (.u (.f 1) 7 [.j [.h (ae 11),.f 6,.f 7]])]⟩),
(161,⟨[8,9],[],[bg 10 (.h (ae (-1))),.f (.a 11) (ap 11 [ap 10 [.f 8]]) [.l (.k c7 (az (az (.f 8) (.f 11)) (.h (ae 1))) (.f 9)) [bg 10 (.f 11)] []],.h (.f 10)]⟩),
(162,⟨[1,8],[],[bg 12 (ap 161 [.f 8,.j [.h (ae 0)]]),.g 13 [],.f (.a 11) (ap 11 [ap 10 [.f 8]]) [kn [14,15] (az (.f 8) (.f 11)),.l (ce [.k a6 (.f 15) (.h (ae 1)),.k eU (.f 11) (.f 12)]) [.d (.u (.f 13) 3 [.j [ap 172 [.f 1,.f 14],.h (ae 0)]])] [.d (.u (.f 13) 3 [.j [.f 14,.f 15]])]],.h (.f 13)]⟩),
(163,⟨[1,8,12],[],[bg 16 (.h (ae (-1))),.f (.a 11) (ap 11 [ap 10 [.f 8]]) [.l (ce [.k eU (.f 16) (.h (ae 0)),.k a6 (az (az (.f 8) (.f 11)) (.h (ae 1))) (.h (ae 2))]) [bg 16 (.f 11)] []],.l (cV [.k eU (.f 16) (.h (ae 0)),.k oq (.f 12) (.f 16)]) [.h (.f 8)] [],.g 17 [],.f (.b [14,15]) (.n (.f 8) (ac (.f 16)) (ac (.w b9 (.f 12) (.h (ae 1))))) [.d (.u (.f 17) 3 [.l (.k a6 (.f 15) (.h (ae 1))) (ap 172 [.f 1,.f 14]) (.f 14)])],.h (.w b9 (.w b9 (.n (.f 8) ah (ac (.f 16))) (dn [.j [ap 171 [.f 1,.f 17],.h (ae 2)]])) (.n (.f 8) (ac (.w b9 (.f 12) (.h (ae 1)))) ah))]⟩),
(164,⟨[1,8,7],[ae 0],[.j 18 (.j [.f 14,.f 15]) (.b [14,15]) (.f 8) [],.l (.k eU (ap 161 [.f 18,.j [.h (ae 3)]]) (.h (ae 0))) [bg 12 (ap 161 [.f 18,.j [.h (ae 2),.h (ae 1)]]),bg 18 (ap 163 [.f 1,ap 162 [.f 1,.f 18],.f 12]),.l (ce [.k a6 (ap 10 [.f 18]) (.h (ae 1)),.k a6 (az (az (.f 18) (.h (ae 0))) (.h (ae 1))) (.h (ae 2))]) [.h (ap 160 [.f 1,az (az (.f 18) (.h (ae 0))) (.h (ae 0)),.f 7])] []] [],.h (.u (.f 1) 7 [.j [.h (ae 12),ap 17 [.f 18],.f 7]])]⟩),
(165,⟨[1,19],[],[.l (.k a6 (.f 19) (.h (ae 2))) [.h (.j [])] [],bg 20 (az (aX (.f 1) 0) (.f 19)),.l (.k a6 (az (.f 20) (.h (ae 0))) (.h (ae 6))) [.h (az (.f 20) (.h (ae 1)))] [],.h (.j [.f 19])]⟩),
(166,⟨[20],[],[bg 21 (az (.f 20) (.h (ae 0))),.l (cV [.k a6 (.f 21) (.h (ae 3)),.k a6 (.f 21) (.h (ae 18))]) [.h (.h (ae 6))] [],.l (.k a6 (.f 21) (.h (ae 4))) [.h (.h (ae 7))] [],.l (.k a6 (.f 21) (.h (ae 5))) [.v] [],.h (.h (ae (-1)))]⟩),
(167,⟨[1,19],[],[bg 20 (az (aX (.f 1) 0) (.f 19)),.l (ce [.k c7 (az (.f 20) (.h (ae 0))) (.h (.j [ae 2,ae 3,ae 4,ae 5,ae 8])),.k a6 (az (.f 20) (.h (ae (-1)))) (.h (ae 1))]) [.h (.u (aX (.f 1) 8) 5 [.w b9 (.n (.f 20) ah (ac (.h (ae (-1))))) (.j [.h (ae 0)]),.h (ae (-1))])] [],.h (.h (ae (-1)))]⟩),
(168,⟨[22],[],[.l (ce [cV [.k c7 (.h (ae 8)) (.f 22),.k c7 (.h (ae 14)) (.f 22)],cV [.k c7 (.h (ae 9)) (.f 22),.k c7 (.h (ae 15)) (.f 22)]]) [eV (.f 22) (.h (ae 8)) (.h (ae 1)),eV (.f 22) (.h (ae 9)) (.h (ae 1))] []]⟩),
(169,⟨[1,22,19],[],[.l (.k c7 (ap 167 [.f 1,.f 19]) (.f 22)) [.h (.h (aA ai))] [],.h (.k m' (ap 166 [az (aX (.f 1) 0) (.f 19)]) (.f 22))]⟩),
(170,⟨[22],[],[.f (.a 19) (.j [.h (ae 0),.h (ae 13),.h (ae 1)]) [.l (.k c7 (.f 19) (.f 22)) [.h (.f 19)] []],.h (.h (ae (-1)))]⟩),
(171,⟨[1,23],[],[.p 22,.f (.a 19) (.f 23) [.f (.a 26) (ap 165 [.f 1,.f 19]) [eV (.f 22) (.f 26) (.h (ae 1))]],bg 24 (ap 170 [.f 22]),.l (.k jl (.f 24) (.h (ae 0))) [.h (.f 24)] [],.d (ap 168 [.f 22]),.j 25 (.f 19) (.a 19) (ap 12 [.f 22]) [ap 169 [.f 1,.f 22,.f 19]],.l (.q (.f 25)) [.h (.h (ae 2))] [],.l (.k a6 (ap 10 [.f 25]) (.h (ae 1))) [.h (az (.f 25) (.h (ae 0)))] [],.l (.k d4 (ap 10 [.f 25]) (.h (ae 400))) [.v] [],.h (.u (.f 1) 7 [.j [.h (ae 6),ap 17 [.f 25]]])]⟩),
(172,⟨[1,19],[],[.h (ap 171 [.f 1,.j [.f 19,.h (ae 4)]])]⟩),
(173,⟨[1,19],[],[.h (.k c7 (az (az (aX (.f 1) 0) (.f 19)) (.h (ae 0))) (.h (.j [ae 2,ae 3,ae 4,ae 5])))]⟩),
(174,⟨[1,19],[],[.h (cV [.k a6 (.f 19) (.h (ae 4)),.k a6 (.f 19) (.h (ae 5)),ap 173 [.f 1,.f 19]])]⟩),
(175,⟨[1,19],[],[bg 20 (az (aX (.f 1) 0) (.f 19)),.h (ce [.k c7 (az (.f 20) (.h (ae 0))) (.h (.j [ae 2,ae 3,ae 4,ae 5,ae 8])),.k a6 (az (.f 20) (.h (ae (-1)))) (.h (ae 1))])]⟩),
(176,⟨[1,19],[],[.l (ap 175 [.f 1,.f 19]) [.h (.u (.f 1) 7 [.w b9 (.n (az (aX (.f 1) 0) (.f 19)) ah (ac (.h (ae (-1))))) (.j [.h (ae 0)])])] [],.h (.f 19)]⟩),
(199,⟨[27,28,29,19],[],[bg 30 (.u (aX (.f 27) 1) 5 [.f 28]),.h (ce [.k pN (.f 30) (.h a4),.u (.f 30) 9 [.f 27,.f 29,.f 19]])]⟩),
(200,⟨[27,31],[],[bg 32 (ap 198 [aX (.f 27) 11,.f 31]),eW (.f 32) 1 (aX (.f 27) 1),eW (.f 32) 10 (.h (aA ai)),.h (.f 32)]⟩),
(201,⟨[27],[],[.l (.k a6 (aX (.f 27) 13) (.h (ae 3))) [.h (.f 27)] [],.l (.k .Is (aX (.f 27) 12) (.h a4)) [eW (.f 27) 12 (ap 200 [.f 27,.h (ae 3)])] [],.h (aX (.f 27) 12)]⟩),
(202,⟨[27,33],[],[.w (aX (aX (.f 27) 14) 0) (az (.f 33) (.h (ae 0))),.m (.k d4 (ap 10 [aX (.f 27) 15]) (az (.f 33) (.h (ae 1)))) [l0 (aX (.f 27) 16) (.u (aX (.f 27) 15) 2 [])]]⟩),
(203,⟨[34,19],[],[bg 19 (.u (.f 34) 17 [.f 19]),.l (ap 173 [aX (.f 34) 18,.f 19]) [.h (ap 176 [aX (.f 34) 18,.f 19])] [],.h (.f 19)]⟩),
(204,⟨[27,29,19],[],[.l (.k a6 (.f 29) (.f 19)) [.h (.h (aA af))] [],bg 29 (ap 203 [aX (.f 27) 11,.f 29]),bg 19 (ap 203 [aX (.f 27) 11,.f 19]),.l (.k a6 (.f 29) (.f 19)) [.h (.h (aA af))] [],.l (.k a6 (aX (.f 27) 13) (.h (ae 3))) [bg 18 (aX (aX (aX (.f 27) 11) 18) 0),.l (cV [.k a6 (.f 29) (.h (ae 13)),.k a6 (.f 19) (.h (ae 13))]) [.h (.h (aA af))] [],.l (cV [.k c7 (az (az (.f 18) (.f 29)) (.h (ae 0))) (.h (.j [ae 1,ae 2,ae 3,ae 4,ae 5])),.k c7 (az (az (.f 18) (.f 19)) (.h (ae 0))) (.h (.j [ae 1,ae 2,ae 3,ae 4,ae 5]))]) [.h (.h (aA ai))] [],.h (ap 205 [.f 27,.f 29,.f 19])] [],bg 35 (ap 209 [.f 27,.f 29,.f 19]),.l (cV [.k a6 (.f 35) (.h (ae 1)),ce [.k a6 (aX (.f 27) 13) (.h (ae 2)),.k eG (.f 19) (.h (ae 2)),.k a6 (ap 209 [.f 27,.f 19,.f 29]) (.h (ae 1))]]) [.h (.h (aA af))] [],.h (ce [.k eU (.f 35) (.h (ae 0)),ap 205 [.f 27,.f 29,.f 19]])]⟩),
(205,⟨[27,29,19],[],[bg 36 (.j [.f 29,.f 19]),.l (.k c7 (.f 36) (aX (.f 27) 21)) [.h (az (aX (.f 27) 21) (.f 36))] [],.l (.k c7 (.f 36) (aX (.f 27) 16)) [.h (.h (aA af))] [],.l (ce [.k jl (aX (.f 27) 19) (.h (ae 20000)),.q (ap 207 [.f 27])]) [.h (.h (aA ai))] [],.l (cV [.k jl (aX (.f 27) 20) (.h (ae 60)),.k jl (aX (.f 27) 19) (.h (ae 20000))]) [.d (.u (.f 27) 23 [.h (ae 15)]),.h (.h (aA af))] [],.q (.f 27) 19 b9 (.h (ae 1)),bg 33 (.u (.f 27) 22 []),eV (aX (.f 27) 16) (.f 36) (.h (ae 1)),.d (.u (aX (.f 27) 15) 3 [.f 36]),.q (.f 27) 20 b9 (.h (ae 1)),bg 37 (.l (.k a6 (aX (.f 27) 13) (.h (ae 3))) (ap 221 [.f 27,.f 29,.f 19]) (ap 215 [.f 27,.f 29,.f 19])),.q (.f 27) 20 fU (.h (ae 1)),.l (.q (.f 37)) [.d (ap 202 [.f 27,.f 33]),.l (cV [.k a6 (az (.f 33) (.h (ae 1))) (.h (ae 0)),.k eG (aX (.f 27) 13) (.h (ae 4))]) [eV (aX (.f 27) 21) (.f 36) (.h (aA ai))] []] [.l (.k a6 (az (.f 33) (.h (ae 1))) (.h (ae 0))) [.d (ap 206 [.f 27,.k a6 (ap 10 [aX (aX (.f 27) 14) 0]) (az (.f 33) (.h (ae 0)))])] []],.h (.f 37)]⟩),
(206,⟨[27,38],[],[.f (.a 36) (aX (.f 27) 15) [l0 (aX (.f 27) 16) (.f 36),.l (.f 38) [eV (aX (.f 27) 21) (.f 36) (.h (aA af))] []],.k (.f 27) 15 []]⟩),
(207,⟨[27],[],[.h (ce [aX (.f 27) 10,.k a6 (aX (.f 27) 13) (.h (ae 1))])]⟩),
(208,⟨[27,29,19],[],[.l (ce [ap 207 [.f 27],.k eG (.f 29) (.h (ae 13)),.k eG (.f 19) (.h (ae 13)),.q (.u (.f 27) 24 [.f 29,.f 19])]) [.d (.u (.f 27) 23 [.h (ae 3)])] []]⟩),
(209,⟨[27,29,19],[],[bg 35 (ap 210 [.f 27,.f 29,.f 19]),.l (.k jl (.f 35) (.h (ae 0))) [.h (.f 35)] [],bg 18 (aX (aX (aX (.f 27) 11) 18) 0),bg 39 (az (az (.f 18) (.f 29)) (.h (ae 0))),bg 5 (az (az (.f 18) (.f 19)) (.h (ae 0))),.l (cV [.k c7 (.f 39) (.h (.j [ae 6,ae 7,ae 10,ae 14,ae 15,ae 16,ae 17,ae 18,ae 19])),.k c7 (.f 5) (.h (.j [ae 6,ae 7,ae 10,ae 14,ae 15,ae 16,ae 17,ae 18,ae 19]))]) [.h (.h (ae (-1)))] [],.l (.k a6 (.f 19) (.h (ae 10))) [.h (.l (.k c7 (.f 39) (.h (.j [ae 1,ae 2,ae 3,ae 4,ae 5]))) (.h (ae 0)) (.h (ae (-1))))] [],.l (.k c7 (.f 5) (.h (.j [ae 1,ae 2,ae 3,ae 4,ae 5]))) [.h (.l (.k c7 (.f 39) (.h (.j [ae 1,ae 2,ae 3,ae 4,ae 5]))) (ap 213 [.f 27,.f 29,.f 19]) (.h (ae 0)))] [],.l (cV [.k a6 (.f 29) (.h (ae 4)),.k a6 (.f 29) (.h (ae 5)),.k a6 (.f 29) (.h (ae 3))]) [.h (.h (ae 0))] [],.h (.h (ae (-1)))]⟩),
(210,⟨[27,29,19],[],[.l (cV [.k a6 (.f 19) (.h (ae 0)),.k a6 (.f 19) (.h (ae 13)),.k a6 (.f 29) (.h (ae 2)),.k a6 (.f 29) (.h (ae 13))]) [.h (.h (ae 1))] [],.l (ce [.k a6 (.f 29) (.h (ae 0)),.k a6 (aX (.f 27) 13) (.h (ae 4))]) [.h (.h (ae 0))] [],.l (.k a6 (.f 19) (.h (ae 1))) [.h (.h (ae 1))] [],.l (.k a6 (.f 29) (.h (ae 0))) [.l (.k a6 (.f 19) (.h (ae 2))) [.h (.h (ae 0))] [],.d (.u (.f 27) 23 [.h (ae 1)]),.h (.h (ae 1))] [],.l (.k a6 (.f 29) (.h (ae 1))) [.h (ap 211 [.f 27,.f 19])] [],.l (ce [.k a6 (.f 19) (.h (ae 2)),.k m' (az (az (aX (aX (aX (.f 27) 11) 18) 0) (.f 29)) (.h (ae 0))) (.h (.j [ae 6,ae 7,ae 10,ae 14,ae 15,ae 16,ae 17,ae 18,ae 19]))]) [.h (.h (ae 0))] [],.h (.h (ae (-1)))]⟩),
(212,⟨[20],[],[.h (ce [.k a6 (az (.f 20) (.h (ae 0))) (.h (ae 5)),.k a6 (ap 166 [.f 20]) (.h (ae 7))])]⟩),
(213,⟨[27,29,19],[],[.l (.k a6 (.f 29) (.h (ae 4))) [.h (.l (.k a6 (.f 19) (.h (ae 3))) (.h (ae 1)) (.h (ae 0)))] [],bg 39 (az (aX (aX (aX (.f 27) 11) 18) 0) (.f 29)),bg 5 (az (aX (aX (aX (.f 27) 11) 18) 0) (.f 19)),.l (ce [.k a6 (ap 166 [.f 39]) (.f 19),.k jl (ap 166 [.f 39]) (.h (ae 0))]) [.h (.h (ae 1))] [],.l (ce [.k a6 (aX (.f 27) 13) (.h (ae 2)),.k a6 (ap 166 [.f 5]) (.f 29)]) [.h (.h (ae 1))] [],.l (ce [.k a6 (az (.f 39) (.h (ae 0))) (.h (ae 5)),.k a6 (az (.f 5) (.h (ae 0))) (.h (ae 5)),.k a6 (az (.f 39) (.h (ae 1))) (az (.f 5) (.h (ae 1)))]) [.h (.l (.k a6 (az (.f 39) (.h (ae 3))) (az (.f 5) (.h (ae 3)))) (.h (ae 1)) (.h (ae 0)))] [],.l (.k a6 (az (.f 39) (.h (ae 0))) (.h (ae 5))) [.h (.l (ce [.k c7 (az (.f 5) (.h (ae 0))) (.j [.h (ae 3),.h (ae 4)]),.k a6 (ap 166 [.f 5]) (ap 166 [.f 39]),.k a6 (az (.f 5) (.h (ae 1))) (az (.f 39) (.h (ae 3)))]) (.h (ae 1)) (.h (ae 0)))] [],.h (ap 214 [.f 27,.f 29,.f 39,.f 5])]⟩),
(214,⟨[27,29,39,5],[],[.l (cV [.k a6 (aX (.f 27) 13) (.h (ae 4)),.q (ap 212 [.f 5])]) [.h (.h (ae 0))] [],.l (cV [.k a6 (.f 29) (.h (ae 7)),ce [.k a6 (az (.f 39) (.h (ae 0))) (.h (ae 4)),.k a6 (az (.f 39) (.h (ae 1))) (az (.f 5) (.h (ae 3)))]]) [.d (.u (.f 27) 23 [.h (ae 10)]),.h (.h (ae 1))] [],.h (.h (ae 0))]⟩),
(215,⟨[27,29,19],[],[bg 18 (aX (aX (aX (.f 27) 11) 18) 0),bg 39 (az (az (.f 18) (.f 29)) (.h (ae 0))),bg 5 (az (az (.f 18) (.f 19)) (.h (ae 0))),.l (.k a6 (.f 39) (.h (ae 6))) [.h (ap 217 [.f 27,.f 29,.f 19])] [],.l (.k a6 (.f 5) (.h (ae 6))) [.h (ap 220 [.f 27,.f 29,.f 19])] [],.h (ap 199 [.f 27,ap 216 [.f 39,.f 5],.f 29,.f 19])]⟩),
(216,⟨[39,5],[],[.l (cV [.k a6 (.f 39) (.h (ae 7)),.k a6 (.f 5) (.h (ae 7))]) [.h (.h (ae 1))] [],.l (cV [.k c7 (.f 39) (.h (.j [ae 10,ae 14,ae 15,ae 16,ae 17,ae 18,ae 19])),.k c7 (.f 5) (.h (.j [ae 10,ae 14,ae 15,ae 16,ae 17,ae 18,ae 19]))]) [.h (.h (ae 2))] [],.l (ce [.k a6 (.f 39) (.h (ae 13)),.k a6 (.f 5) (.h (ae 13))]) [.h (.h (ae 3))] [],.l (ce [.k c7 (.f 39) (.h (.j [ae 11,ae 12])),.k c7 (.f 5) (.h (.j [ae 11,ae 12]))]) [.h (.h (ae 4))] [],.h (.h (ae 5))]⟩),
(217,⟨[27,29,19],[],[.f (.a 26) (ap 165 [aX (aX (.f 27) 11) 18,.f 29]) [.l (.u (.f 27) 25 [.f 26,.f 19]) [.l (.k a6 (aX (.f 27) 13) (.h (ae 2))) [.h (.h (aA af))] []] [.l (.k eG (aX (.f 27) 13) (.h (ae 2))) [.h (.h (aA ai))] []]],.h (.k eG (aX (.f 27) 13) (.h (ae 2)))]⟩),
(218,⟨[27,29,23],[],[bg 40 (.h a4),.f (.a 26) (.f 23) [bg 33 (.u (.f 27) 22 []),.l (.u (.f 27) 25 [.f 29,.f 26]) [.l (.k a6 (ap 10 [aX (aX (.f 27) 14) 0]) (az (.f 33) (.h (ae 0)))) [.h (.h (aA af))] [],.l (.k .Is (.f 40) (.h a4)) [bg 40 (.j [.n (aX (aX (.f 27) 14) 0) (ac (az (.f 33) (.h (ae 0)))) ah,.n (aX (.f 27) 15) (ac (az (.f 33) (.h (ae 1)))) ah])] [],.d (.u (.f 27) 26 [.f 33])] []],.l (.k .Is (.f 40) (.h a4)) [.h (.h (aA ai))] [],.d (ap 219 [.f 27,.f 40]),.h (.h (aA af))]⟩),
(219,⟨[27,40],[],[.d (.u (aX (aX (.f 27) 14) 0) 4 [az (.f 40) (.h (ae 0))]),.f (.a 36) (az (.f 40) (.h (ae 1))) [.l (ce [.k m' (.f 36) (aX (.f 27) 16),.k m' (.f 36) (aX (.f 27) 21)]) [eV (aX (.f 27) 16) (.f 36) (.h (ae 1)),.d (.u (aX (.f 27) 15) 3 [.f 36])] []]]⟩),
(220,⟨[27,29,19],[],[bg 1 (aX (aX (.f 27) 11) 18),bg 23 (ap 165 [.f 1,.f 19]),.l (cV [.k c7 (.f 29) (.f 23),ap 218 [.f 27,.f 29,.f 23]]) [.h (.h (aA af))] [],bg 21 (az (az (aX (.f 1) 0) (.f 29)) (.h (ae 0))),.l (.k c7 (.f 21) (.h (.j [ae 10,ae 14,ae 15,ae 16,ae 17,ae 18,ae 19]))) [.h (ap 199 [.f 27,.h (ae 2),.f 29,.f 19])] [],.l (ce [.k a6 (.f 21) (.h (ae 7)),ap 199 [.f 27,.h (ae 1),.f 29,.f 19]]) [.h (.h (aA af))] [],.l (cV [.k a6 (.f 21) (.h (ae 7)),.k c7 (.f 21) (.h (.j [ae 8,ae 9]))]) [.h (ap 199 [.f 27,.h (ae 6),.f 29,.f 19])] [],.h (ce [.k a6 (.f 21) (.h (ae 12)),ap 199 [.f 27,.h (ae 12),.f 29,.f 19]])]⟩),
(221,⟨[27,29,19],[],[bg 18 (aX (aX (aX (.f 27) 11) 18) 0),bg 39 (az (.f 18) (.f 29)),bg 5 (az (.f 18) (.f 19)),.l (ce [.k a6 (az (.f 39) (.h (ae 0))) (az (.f 5) (.h (ae 0))),cV [.k a6 (az (.f 39) (.h (ae 0))) (.h (ae 6)),.k a6 (az (.f 39) (.h (ae 0))) (.h (ae 7))]]) [.h (ce [ap 222 [.f 27,az (.f 39) (.h (ae 1)),az (.f 5) (.h (ae 1))],ap 222 [.f 27,az (.f 5) (.h (ae 1)),az (.f 39) (.h (ae 1))]])] [],.l (cV [.k c7 (az (.f 39) (.h (ae 0))) (.j [.h (ae 6),.h (ae 7)]),.k c7 (az (.f 5) (.h (ae 0))) (.j [.h (ae 6),.h (ae 7)])]) [.h (.h (aA ai))] [],.h (ap 199 [.f 27,ap 216 [az (.f 39) (.h (ae 0)),az (.f 5) (.h (ae 0))],.f 29,.f 19])]⟩),
(222,⟨[27,41,42],[],[.f (.a 29) (.f 41) [.l (.q (ap 218 [.f 27,.f 29,.f 42])) [.h (.h (aA ai))] []],.h (.h (aA af))]⟩),
(224,⟨[1,19],[],[bg 23 (ap 165 [.f 1,.f 19]),.h (ce [.k d4 (ap 10 [.f 23]) (.h (ae 0)),ap 14 [dY (ap 174 [.f 1,.f 26]) (.a 26) (.f 23) []]])]⟩),
(227,⟨[18],[],[.p 43,.f (.a 44) (.f 18) [bg 45 (ce [.k pN (.f 44) (.h a4),.k eG (.w uC (az (.f 44) (.h (ae 2))) (.w iw (.h (ae 8)) (.h (ae 16)))) (.h (ae 0))]),eV (.f 43) (.l (.f 45) (az (.f 44) (.h (ae 3))) (.h (ae 0))) (.h (ae 1))],.h (.k d4 (ap 10 [.f 43]) (.h (ae 1)))]⟩),
(228,⟨[34,19],[],[.g 13 [],.p 46,.g 47 [.f 19],.m (.f 47) [bg 48 (.u (.f 34) 17 [.u (.f 47) 2 []]),.l (.k c7 (.f 48) (.f 46)) [rI] [],eV (.f 46) (.f 48) (.h (ae 1)),bg 20 (az (aX (aX (.f 34) 18) 0) (.f 48)),bg 49 (.l (.k a6 (az (.f 20) (.h (ae 0))) (.h (ae 6))) (az (.f 20) (.h (ae 1))) (.j [.l (.k c7 (az (.f 20) (.h (ae 0))) (.h (.j [ae 11,ae 12]))) (.f 48) (.u (.f 34) 27 [.f 48])])),.l (.k a6 (.f 49) (.j [.f 48])) [.d (.u (.f 13) 3 [.f 48])] [.d (.u (.f 47) 4 [.f 49])]],.h (.f 13)]⟩),
(233,⟨[1,6],[],[.l (.k a6 (az (.f 6) (.h (ae 1))) (.h (ae 3))) [.h (.h (ae 1))] [],.h (.l (.k a6 (az (.f 6) (.h (ae 1))) (.h (ae 1))) (ap 172 [.f 1,az (.f 6) (.h (ae 0))]) (az (.f 6) (.h (ae 0))))]⟩),
(234,⟨[20],[],[.l (.k a6 (az (.f 20) (.h (ae 0))) (.h (ae 11))) [.h (.h (ae 0))] [],.f (.a 11) (ap 11 [ap 10 [az (.f 20) (.h (ae 1))]]) [.l (.k c7 (az (az (az (.f 20) (.h (ae 1))) (.f 11)) (.h (ae 1))) (.j [.h (ae 2),.h (ae 3)])) [.h (.f 11)] []],.h (ap 10 [az (.f 20) (.h (ae 1))])]⟩),
(236,⟨[50],[],[bg 51 (ap 14 [dY (.s oq oq (.h (bP "0")) (.f 52) (.h (bP "9"))) (.a 52) (.f 50) []]),.h (cV [.k a6 (.f 50) (.h (bP "0")),ce [.k eG (.f 50) (.h (bP "")),.k eG (az (.f 50) (.h (ae 0))) (.h (bP "0")),.f 51]])]⟩),
(237,⟨[50],[],[.h (.l (.k eU (ap 10 [.f 50]) (.h (ae 16))) (ap 16 [.f 50]) (.w .Pow (.h (ae 10)) (.h (ae 16))))]⟩),
(238,⟨[50],[],[.l (.k a6 (.f 50) (.h (bP "NaN"))) [.h (.h (aA af))] [],.l (ce [.k a6 (.n (.f 50) (ac (.h (ae 0))) (ac (.h (ae 1)))) (.h (bP "-")),.k eG (.f 50) (.h (bP "-0"))]) [bg 50 (.n (.f 50) (ac (.h (ae 1))) ah)] [],.h (cV [ap 236 [.f 50],.k a6 (.f 50) (.h (bP "Infinity"))])]⟩),
(239,⟨[34,19,50],[],[bg 19 (.u (.f 34) 17 [.f 19]),bg 20 (az (aX (aX (.f 34) 18) 0) (.f 19)),.l (cV [.k a6 (az (.f 20) (.h (ae 0))) (.h (ae 11)),.k a6 (az (.f 20) (.h (ae 0))) (.h (ae 12))]) [bg 44 (.u (.f 34) 28 [.f 19,.f 50])] [bg 44 (ap 235 [az (aX (aX (.f 34) 18) 0) (.u (.f 34) 29 [.f 19]),.f 50])],.h (.l (.k .Is (.f 44) (.h a4)) (.h a4) (.j [.f 50,.u (.f 34) 17 [az (.f 44) (.h (ae 1))],az (.f 44) (.h (ae 2)),az (.f 44) (.h (ae 3))]))]⟩),
(241,⟨[34,20],[],[bg 53 (.n (az (.f 20) (.h (ae 1))) (ac (ap 234 [.f 20])) ah),.h (.l (.f 53) (ap 171 [aX (.f 34) 18,dY (ap 233 [aX (.f 34) 18,.f 6]) (.a 6) (.f 53) []]) (.h (ae (-1))))]⟩),
(242,⟨[34,20,50],[],[.l (.k a6 (az (.f 20) (.h (ae 0))) (.h (ae 11))) [.h (.l (ap 238 [.f 50]) (az (.f 20) (.h (ae 1))) (.h (ae (-1))))] [],.h (.l (ap 236 [.f 50]) (ap 246 [.f 34,.f 20,ap 237 [.f 50]]) (.h (ae (-1))))]⟩),
(243,⟨[34,19,50],[],[bg 20 (az (aX (aX (.f 34) 18) 0) (.f 19)),.l (cV [.k a6 (az (.f 20) (.h (ae 0))) (.h (ae 11)),.k a6 (az (.f 20) (.h (ae 0))) (.h (ae 12))]) [bg 19 (ap 242 [.f 34,.f 20,.f 50]),.h (.l (.k eU (.f 19) (.h (ae 0))) (.f 19) (.u (.f 34) 17 [.f 19]))] [],bg 54 (az (aX (aX (.f 34) 18) 0) (.u (.f 34) 29 [.f 19])),.l (ce [ap 238 [.f 50],.k eG (az (.f 54) (.h (ae 5))) (.j [])]) [.h (.u (.f 34) 17 [az (az (.f 54) (.h (ae 5))) (.h (ae 0))])] [],.h (.l (.k a6 (az (.f 54) (.h (ae 4))) (.j [])) (.h (ae (-1))) (.u (.f 34) 17 [az (az (.f 54) (.h (ae 4))) (.h (ae 0))]))]⟩),
(244,⟨[34,19,44,50],[],[.l (cV [.k a6 (.f 19) (.h (ae 0)),.k a6 (.f 19) (.h (ae 13))]) [.h (.f 19)] [],.h (.l (.k .Is (.f 44) (.h a4)) (ap 243 [.f 34,.f 19,.f 50]) (ap 240 [aX (.f 34) 18,.f 44]))]⟩),
(245,⟨[34,19,50],[],[.j 23 (.u (.f 34) 17 [.u (.f 34) 27 [.f 26]]) (.a 26) (ap 228 [.f 34,.f 19]) [],.j 18 (.l (.k c7 (.f 26) (.j [.h (ae 0),.h (ae 13)])) (.h a4) (ap 239 [.f 34,.f 26,.f 50])) (.a 26) (.f 23) [],.j 10 (ap 244 [.f 34,az (.f 23) (.f 11),az (.f 18) (.f 11),.f 50]) (.a 11) (ap 11 [ap 10 [.f 23]]) [],.h (.l (cV [.k c7 (.h (ae (-1))) (.f 10),.q (.f 10),ap 227 [.f 18]]) (.h (ae (-1))) (ap 171 [aX (.f 34) 18,.f 10]))]⟩),
(246,⟨[34,20,11],[],[.l (.k eU (.f 11) (ap 234 [.f 20])) [.h (ap 233 [aX (.f 34) 18,az (az (.f 20) (.h (ae 1))) (.f 11)])] [],.h (ap 241 [.f 34,.f 20])]⟩),
(248,⟨[34,19],[],[bg 20 (az (aX (aX (.f 34) 18) 0) (.f 19)),.l (.k a6 (az (.f 20) (.h (ae 0))) (.h (ae 18))) [.h (ap 14 [dY (.k eG (az (az (aX (aX (.f 34) 18) 0) (.f 55)) (.h (ae 0))) (.h (ae 10))) (.a 55) (az (.f 20) (.h (ae 2))) []])] [],.h (ap 224 [aX (.f 34) 18,.f 19])]⟩),
(249,⟨[34,23,50],[],[.p 56,.f (.a 26) (.f 23) [bg 14 (ap 245 [.f 34,.f 26,.f 50]),.l (.k jl (.f 14) (.h (ae 0))) [eV (.f 56) (.f 14) (.h (ae 1))] []],.j 57 (.f 14) (.a 14) (.f 56) [ap 248 [.f 34,.u (.f 34) 17 [.f 14]]],.h (ce [.k d4 (ap 10 [.f 56]) (.h (ae 1)),.k d4 (ap 10 [.f 57]) (.h (ae 0))])]⟩),
(253,⟨[27,23,50],[],[bg 30 (.u (aX (.f 27) 1) 5 [.h (ae 13)]),.h (ce [.k pN (.f 30) (.h a4),.u (.f 30) 30 [.f 27,.f 23,.f 50]])]⟩),
(254,⟨[58],[],[.g 18 [.y],.f (.b [50,59]) (.f 58) [.g 60 [],.f (.a 20) (.f 18) [.f (.a 61) (.f 59) [.u 62 (.f 20),eV (.f 62) (.f 50) (.f 61),.d (.u (.f 60) 3 [.f 62])]],.l (.k d4 (ap 10 [.f 60]) (.h (ae 25))) [.h (dn [])] [],bg 18 (.f 60)],.h (.f 18)]⟩),
(255,⟨[27,20,23],[],[bg 34 (aX (.f 27) 11),.g 13 [],.f (.a 11) (ap 11 [ap 10 [az (.f 20) (.h (ae 1))]]) [kn [14,15] (az (az (.f 20) (.h (ae 1))) (.f 11)),bg 21 (.u (.f 34) 17 [.f 14]),.l (.k eG (.f 15) (.h (ae 0))) [.o] [],.l (ce [.k d4 (ap 10 [ap 165 [aX (.f 34) 18,.f 21]]) (.h (ae 1)),ap 253 [.f 27,.f 23,ap 15 [.f 11]]]) [.d (.u (.f 13) 3 [.j [.f 11,ap 165 [aX (.f 34) 18,.f 21]]])] []],.h (.f 13)]⟩),
(256,⟨[27,29,23],[],[bg 34 (aX (.f 27) 11),bg 20 (az (aX (aX (.f 34) 18) 0) (.f 29)),.j 63 (.f 26) (.a 26) (.f 23) [.k c7 (az (az (aX (aX (.f 34) 18) 0) (.f 26)) (.h (ae 0))) (.h (.j [ae 11,ae 12]))],bg 64 (ap 254 [ap 255 [.f 27,.f 20,.f 63]]),.l (.k eU (ap 10 [.f 64]) (.h (ae 2))) [.h (.h (aA ai))] [],.f (.a 62) (.f 64) [.j 8 (.j [.u (.f 62) 5 [.f 48,az (az (az (.f 20) (.h (ae 1))) (.f 48)) (.h (ae 0))],az (az (az (.f 20) (.h (ae 1))) (.f 48)) (.h (ae 1))]) (.a 48) (ap 11 [ap 10 [az (.f 20) (.h (ae 1))]]) [],.l (.q (ap 218 [.f 27,ap 164 [aX (.f 34) 18,.f 8,az (.f 20) (.h (ae 2))],.f 63])) [.h (.h (aA ai))] []],.l (.q (az (.f 20) (.h (ae 2)))) [.d (.u (.f 27) 23 [.h (ae 3)])] [],.h (.h (aA af))]⟩),
(258,⟨[27],[],[eV (aX (.f 27) 1) (.h (ae 13)) (ap 252 [])]⟩),
(259,⟨[27],[],[eV (aX (.f 27) 1) (.h (ae 12)) (ap 257 [])]⟩),
(261,⟨[8],[],[.h (ap 10 [dY (.f 6) (.a 6) (.f 8) [.k a6 (az (.f 6) (.h (ae 1))) (.h (ae 0))]])]⟩),
(262,⟨[8],[],[.f (.a 11) (ap 11 [ap 10 [.f 8]]) [.l (.k jl (az (az (.f 8) (.f 11)) (.h (ae 1))) (.h (ae 2))) [.h (.f 11)] []],.h (.h (ae (-1)))]⟩),
(263,⟨[8,65,11],[],[bg 66 (ap 262 [.f 8]),.l (cV [.k eU (.f 66) (.h (ae 0)),.k eU (.f 11) (.f 66)]) [.h (az (.f 8) (.f 11))] [],bg 67 (.w fU (.w fU (ap 10 [.f 8]) (.f 66)) (.h (ae 1))),.l (.k jl (.f 11) (.w fU (.f 65) (.f 67))) [.h (az (.f 8) (.w fU (ap 10 [.f 8]) (.w fU (.f 65) (.f 11))))] [],.h (az (.f 8) (.f 66))]⟩),
(264,⟨[39,5],[],[.l (.k eU (ap 261 [.f 39]) (ap 261 [.f 5])) [.h (.h (aA ai))] [],.l (.k jl (ap 262 [.f 5]) (.h (ae 0))) [.h (.h (aA af))] [],.h (ce [.k eU (ap 262 [.f 39]) (.h (ae 0)),.k oq (ap 10 [.f 39]) (ap 10 [.f 5])])]⟩),
(265,⟨[1,39,5],[],[bg 24 (.l (.k eU (ap 262 [.f 39]) (.h (ae 0))) (ap 10 [.f 39]) (.w b9 (ap 10 [.f 39]) (ap 10 [.f 5]))),.j 68 (.j [ap 233 [.f 1,.f 6],az (.f 6) (.h (ae 1))]) (.a 6) (.f 39) [],.j 69 (.j [ap 233 [.f 1,.f 6],az (.f 6) (.h (ae 1))]) (.a 6) (.f 5) [],.p 10,.f (.a 65) (ap 11 [ap 261 [.f 39],.w b9 (.f 24) (.h (ae 1))]) [.f (.a 11) (ap 11 [.f 65]) [eV (.f 10) (.j [az (ap 263 [.f 68,.f 65,.f 11]) (.h (ae 0)),az (ap 263 [.f 69,.f 65,.f 11]) (.h (ae 0))]) (.h (ae 1))]],.h (dY (.f 70) (.a 70) (.f 10) [])]⟩),
(266,⟨[8],[],[.h (.k d4 (ap 10 [dY (.f 6) (.a 6) (.f 8) [.k a6 (az (.f 6) (.h (ae 1))) (.h (ae 3))]]) (.h (ae 0)))]⟩),
(268,⟨[27,71,72],[],[.f (.b [29,19]) (.f 71) [.l (.q (.u (.f 27) 25 [.f 29,.f 19])) [.h (.h (aA ai))] [],.l (.q (.f 72)) [.d (ap 208 [.f 27,.f 29,.f 19])] []],.h (.h (aA af))]⟩),
(270,⟨[27,39,5,72],[],[.l (cV [ap 266 [.f 5],.k a6 (aX (.f 27) 13) (.h (ae 3))]) [.h (ap 267 [.f 27,.f 39,.f 5])] [],.l (ap 266 [.f 39]) [bg 39 (ap 269 [.f 27,.f 39,.f 5]),.l (.k a6 (.f 39) (.j [])) [.h (.h (aA ai))] []] [],.l (.q (ap 264 [.f 39,.f 5])) [.h (.h (aA ai))] [],.l (ce [.q (.f 72),.k eG (dY (az (.f 6) (.h (ae 1))) (.a 6) (.f 39) []) (dY (az (.f 6) (.h (ae 1))) (.a 6) (.f 5) [])]) [.d (.u (.f 27) 23 [.h (ae 3)])] [],.h (ap 268 [.f 27,ap 265 [aX (aX (.f 27) 11) 18,.f 39,.f 5],.f 72])]⟩),
(271,⟨[27,8,19,72],[],[.l (.q (.f 72)) [.d (.u (.f 27) 23 [.h (ae 3)])] [],bg 1 (aX (aX (.f 27) 11) 18),bg 73 (ap 160 [.f 1,.f 19,.h (ae 1)]),.g 71 [],.f (.a 6) (.f 8) [.d (.u (.f 71) 3 [.l (.k a6 (az (.f 6) (.h (ae 1))) (.h (ae 3))) (.j [az (.f 6) (.h (ae 0)),.f 73]) (.j [ap 233 [.f 1,.f 6],.f 19])])],.h (ap 268 [.f 27,.f 71,.f 72])]⟩),
(272,⟨[27,29,19],[],[bg 39 (az (aX (aX (aX (.f 27) 11) 18) 0) (.f 29)),bg 5 (az (aX (aX (aX (.f 27) 11) 18) 0) (.f 19)),.l (ce [az (.f 39) (.h (ae 2)),.q (az (.f 5) (.h (ae 2)))]) [.h (.h (aA ai))] [],.l (ce [.k a6 (aX (.f 27) 13) (.h (ae 3)),cV [.k eG (az (.f 39) (.h (ae 0))) (az (.f 5) (.h (ae 0))),.k eG (az (.f 39) (.h (ae 2))) (az (.f 5) (.h (ae 2)))]]) [.h (.h (aA ai))] [],.l (ce [.k a6 (az (.f 39) (.h (ae 0))) (.h (ae 11)),.k a6 (az (.f 5) (.h (ae 0))) (.h (ae 11))]) [.h (ap 268 [.f 27,dn [.j [az (.f 39) (.h (ae 1)),az (.f 5) (.h (ae 1))]],az (.f 5) (.h (ae 2))])] [],.l (.k a6 (az (.f 5) (.h (ae 0))) (.h (ae 11))) [.h (ap 271 [.f 27,az (.f 39) (.h (ae 1)),az (.f 5) (.h (ae 1)),az (.f 5) (.h (ae 2))])] [],.l (.k a6 (az (.f 39) (.h (ae 0))) (.h (ae 11))) [.h (ap 270 [.f 27,.j [.j [az (.f 39) (.h (ae 1)),.h (ae 2)]],az (.f 5) (.h (ae 1)),az (.f 5) (.h (ae 2))])] [],.h (ap 270 [.f 27,az (.f 39) (.h (ae 1)),az (.f 5) (.h (ae 1)),az (.f 5) (.h (ae 2))])]⟩),
(274,⟨[27],[],[eV (aX (.f 27) 1) (.h (ae 4)) (ap 273 [])]⟩),
(277,⟨[74,4],[],[bg 48 (az (.f 74) (.h (ae 0))),eV (.f 74) (.h (ae 0)) (.w b9 (.f 48) (.h (ae 1))),bg 75 (.l (.k eU (.f 48) (ap 10 [az (.f 74) (.h (ae 1))])) (az (az (.f 74) (.h (ae 1))) (.f 48)) (.w b9 (.w oo (.f 48) (.h (ae 7))) (.h (ae 2)))),.h (.w .Mod (.f 75) (.f 4))]⟩),
(278,⟨[76],[],[.g 13 [],.f (.a 77) (ap 11 [.h (ae 8)]) [bg 73 (az (dn [.h (ae 6),.h (ae 6),.h (ae 7),.h (ae (-1)),.h (ae (-1)),.h (ae (-1)),.h (ae (-1)),.h (ae (-1))]) (.f 77)),.l (ce [.k c7 (.f 77) (.f 76),.k m' (.f 73) (.f 76)]) [.d (.u (.f 13) 3 [.f 77])] []],.h (.f 13)]⟩),
(279,⟨[74],[],[.h (ap 278 [dY (ap 277 [.f 74,.h (ae 8)]) (.a 78) (ap 11 [.w b9 (.h (ae 1)) (ap 277 [.f 74,.h (ae 3)])]) []])]⟩),
(280,⟨[74,79],[],[.l (.f 79) [bg 81 (ap 277 [.f 74,.h (ae 4)]),bg 84 (ap 277 [.f 74,.h (ae 6)]),.g 80 [],.f (.a 85) (az (dn [dn [.h (ae 5),.h (ae 5)],dn [.h (ae 5),.h (ae 6)],dn [.h (ae 3),.h (ae 3),.h (ae 3)],dn [.h (ae 3),.h (ae 3),.h (ae 2)]]) (.f 81)) [.d (.u (.f 80) 3 [ap 278 [dY (.w .Mod (.w b9 (.f 84) (.f 78)) (.h (ae 6))) (.a 78) (ap 11 [.f 85]) []]])],.h (.j [.f 80,dn [],dn [],dn [],ap 277 [.f 74,.h (ae 2)]])] [],.j 80 (ap 279 [.f 74]) (.a 78) (ap 11 [.w b9 (.h (ae 1)) (ap 277 [.f 74,.h (ae 3)])]) [],bg 81 (ap 277 [.f 74,.h (ae 6)]),bg 82 (.l (.k a6 (.f 81) (.h (ae 3))) (dn [ap 279 [.f 74]]) (dn [])),bg 66 (.l (.k d4 (.f 81) (.h (ae 3))) (dn [ap 279 [.f 74]]) (dn [])),bg 83 (.l (.k a6 (.f 81) (.h (ae 5))) (dn [ap 279 [.f 74]]) (dn [])),.h (.j [.f 80,.f 82,.f 66,.f 83,.w uv (ap 277 [.f 74,.h (ae 3)]) (.h (ae 2))])]⟩),
(281,⟨[20],[],[.h (.w b9 (.w b9 (.w b9 (az (.f 20) (.h (ae 0))) (az (.f 20) (.h (ae 1)))) (az (.f 20) (.h (ae 2)))) (az (.f 20) (.h (ae 3))))]⟩),
(282,⟨[20,11,76],[],[.g 86 [],bg 48 (.h (ae 0)),.f (.a 87) (.n (.f 20) ah (ac (.h (ae 4)))) [.g 32 [],.f (.a 88) (.f 87) [.d (.u (.f 32) 3 [.l (.k a6 (.f 48) (.f 11)) (.f 76) (.f 88)]),.B 48 b9 (.h (ae 1))],.d (.u (.f 86) 3 [.f 32])],.h (.j [az (.f 86) (.h (ae 0)),az (.f 86) (.h (ae 1)),az (.f 86) (.h (ae 2)),az (.f 86) (.h (ae 3)),az (.f 20) (.h (ae 4))])]⟩),
(283,⟨[74,20],[],[.g 23 [.f 20],bg 89 (ap 10 [ap 281 [.f 20]]),bg 84 (ap 277 [.f 74,.f 89]),.f (.a 78) (ap 11 [.w b9 (.h (ae 1)) (ap 277 [.f 74,.w b9 (.f 89) (.h (ae 1))])]) [bg 11 (.w .Mod (.w b9 (.f 84) (.f 78)) (.f 89)),bg 76 (az (ap 281 [az (.f 23) (.h (ae (-1)))]) (.f 11)),.l (.k d4 (ap 10 [.f 76]) (.h (ae 1))) [bg 90 (.w b9 (.h (ae 1)) (ap 277 [.f 74,.w fU (ap 10 [.f 76]) (.h (ae 1))])),bg 12 (.u (.f 23) 2 []),.d (.u (.f 23) 3 [ap 282 [.f 12,.f 11,.n (.f 76) ah (ac (.f 90))]]),.d (.u (.f 23) 3 [ap 282 [.f 12,.f 11,.n (.f 76) (ac (.f 90)) ah]])] []],.h (.f 23)]⟩),
(284,⟨[74,20],[],[kn [80,82,66,83,7] (.f 20),bg 81 (ap 277 [.f 74,.h (ae 13)]),bg 11 (ap 277 [.f 74,ap 10 [ap 281 [.f 20]]]),bg 76 (az (ap 281 [.f 20]) (.f 11)),.l (.k a6 (.f 81) (.h (ae 0))) [.h (ap 282 [.f 20,.f 11,.l (.k d4 (ap 10 [.f 76]) (.h (ae 1))) (.n (.f 76) ah (ac (.h (ae (-1))))) (.f 76)])] [],.l (.k a6 (.f 81) (.h (ae 1))) [.h (ap 282 [.f 20,.f 11,ap 278 [.w b9 (.f 76) (dn [ap 277 [.f 74,.h (ae 8)]])]])] [],.l (cV [.k a6 (.f 81) (.h (ae 2)),.k a6 (.f 81) (.h (ae 8))]) [.h (ap 282 [.f 20,.f 11,.l (.k a6 (.f 81) (.h (ae 2))) (.n (.f 76) ah (ac (.h (ae 1)))) (.n (.f 76) (ac (.h (ae (-1)))) ah)])] [],.l (.k a6 (.f 81) (.h (ae 3))) [.h (.j [.f 80,.f 82,.f 66,.f 83,.w fU (.h (ae 1)) (.f 7)])] [],.l (ce [.k a6 (.f 81) (.h (ae 4)),.k a6 (ap 10 [.f 83]) (.h (ae 0)),.k a6 (ap 10 [.f 82]) (.h (ae 0))]) [.h (.j [.n (.f 80) ah (ac (.h (ae (-1)))),.n (.f 80) (ac (.h (ae (-1)))) ah,.f 66,.f 83,.f 7])] [],.l (ce [.k a6 (.f 81) (.h (ae 5)),.k a6 (ap 10 [.f 83]) (.h (ae 0)),.k a6 (ap 10 [.f 66]) (.h (ae 0))]) [.h (.j [.f 80,.w b9 (.f 82) (dn [.f 76]),.f 66,.f 83,.f 7])] [],.l (.k a6 (.f 81) (.h (ae 6))) [.h (.j [.w b9 (.f 80) (.f 83),.f 82,.l (.k d4 (ap 10 [.f 66]) (.h (ae 0))) (dn []) (dn [.f 76]),dn [],.f 7])] [],.l (.k a6 (.f 81) (.h (ae 7))) [.g 17 [],.f (.a 88) (ap 281 [.f 20]) [bg 17 (.w b9 (.f 17) (.f 88))],.h (.j [dn [],dn [],dn [ap 278 [.f 17]],dn [],.f 7])] [],.h (.f 20)]⟩),
(285,⟨[76],[],[bg 17 (.h (ae 0)),.f (.a 77) (.f 76) [.B 17 iw (az (.h (.j [ae 1,ae 2,ae 8,ae 32,ae 64,ae 128,ae 7,ae 24])) (.f 77))],.h (.f 17)]⟩),
(286,⟨[20],[],[.j 86 (dY (ap 285 [.f 88]) (.a 88) (.f 87) []) (.a 87) (.n (.f 20) ah (ac (.h (ae 4)))) [],.h (.j [az (.f 86) (.h (ae 0)),dY (.w iw (.f 91) (.h (ae 256))) (.a 91) (az (.f 86) (.h (ae 1))) [],az (.f 86) (.h (ae 2)),az (.f 86) (.h (ae 3)),az (.f 20) (.h (ae 4))])]⟩),
(287,⟨[92,65],[],[kn [80,82,66,83,7] (.f 92),bg 49 (.w fU (.w fU (.f 65) (ap 10 [.f 80])) (ap 10 [.f 83])),.l (cV [.k eU (.f 49) (.h (ae 0)),ce [.k d4 (.f 49) (ap 10 [.f 82]),.k a6 (ap 10 [.f 66]) (.h (ae 0))]]) [.h (dn [])] [],.h (.w b9 (.w b9 (.w b9 (.f 80) (.n (.f 82) ah (ac (.f 49)))) (.w oo (.f 66) (.w fU (.f 49) (ap 10 [.f 82])))) (.f 83))]⟩),
(288,⟨[93,94],[],[.l (.k d4 (az (.f 93) (.h (ae 4))) (az (.f 94) (.h (ae 4)))) [.h (.h (aA ai))] [],bg 24 (.w b9 (.w b9 (.h (ae 1)) (ap 13 [.w b9 (ap 10 [az (.f 93) (.h (ae 0))]) (ap 10 [az (.f 93) (.h (ae 1))]),.w b9 (ap 10 [az (.f 94) (.h (ae 0))]) (ap 10 [az (.f 94) (.h (ae 1))])])) (ap 13 [ap 10 [az (.f 93) (.h (ae 3))],ap 10 [az (.f 94) (.h (ae 3))]])),.f (.a 65) (ap 11 [.h (ae 1),.w b9 (.f 24) (.h (ae 1))]) [bg 68 (ap 287 [.f 93,.f 65]),bg 69 (ap 287 [.f 94,.f 65]),.l (ce [.k d4 (ap 10 [.f 68]) (.h (ae 0)),.k a6 (ap 10 [.f 69]) (.h (ae 0))]) [.h (.h (aA ai))] [],.f (.a 11) (ap 11 [ap 10 [.f 68]]) [.l (.k eG (.w iw (az (.f 68) (.f 11)) (az (.f 69) (.f 11))) (az (.f 69) (.f 11))) [.h (.h (aA ai))] []]],.h (.h (aA af))]⟩),
(289,⟨[92,11],[],[bg 35 (.w b9 (az (.f 92) (.h (ae 0))) (az (.f 92) (.h (ae 1)))),.l (.k eU (.f 11) (ap 10 [.f 35])) [.h (az (.f 35) (.f 11))] [],bg 17 (.h (ae 0)),.f (.a 91) (.w b9 (az (.f 92) (.h (ae 2))) (az (.f 92) (.h (ae 3)))) [.B 17 iw (.f 91)],.h (.f 17)]⟩),
(290,⟨[20,63],[],[.g 95 [ap 286 [.f 20]],.f (.a 11) (ap 11 [ap 10 [az (.f 20) (.h (ae 0))]]) [.g 46 [],.f (.a 26) (.f 63) [bg 17 (ap 289 [.f 26,.f 11]),.l (ce [.k d4 (.f 17) (.h (ae 0)),.k m' (.f 17) (.f 46)]) [.d (.u (.f 46) 3 [.f 17])] []],.j 59 (.f 17) (.a 17) (.f 46) [.k a6 (.w uC (.f 17) (.h (ae 20))) (.h (ae 0))],.l (ce [.k d4 (ap 10 [az (az (.f 20) (.h (ae 0))) (.f 11)]) (.h (ae 1)),.k d4 (ap 10 [.f 46]) (.h (ae 1)),.k d4 (ap 10 [.f 59]) (.h (ae 0))]) [.g 60 [],.f (.b [80,82,66,83,7]) (.f 95) [.f (.a 77) (az (az (.f 20) (.h (ae 0))) (.f 11)) [.d (.u (.f 60) 3 [.j [.w b9 (.w b9 (.n (.f 80) ah (ac (.f 11))) (dn [az (.h (.j [ae 1,ae 2,ae 8,ae 32,ae 64,ae 128,ae 7,ae 24])) (.f 77)])) (.n (.f 80) (ac (.w b9 (.f 11) (.h (ae 1)))) ah),.f 82,.f 66,.f 83,.f 7]])]],bg 95 (.f 60)] []],.h (.l (.s eU eU (.h (ae 1)) (ap 10 [.f 95]) (.h (ae 26))) (.f 95) (dn []))]⟩),
(291,⟨[92,63],[],[.h (dY (.f 26) (.a 26) (.f 63) [ap 288 [.f 92,.f 26]])]⟩),
(292,⟨[1,76],[],[.g 32 [],.f (.a 77) (.f 76) [.l (.k eU (.f 77) (.h (ae 2))) [.d (.u (.f 32) 3 [ap 158 [.f 1,.f 77]])] [.l (.k a6 (.f 77) (.h (ae 2))) [.d (.u (.f 32) 3 [ap 157 [.f 1,.h (bP "a")]])] [.l (.k eU (.f 77) (.h (ae 5))) [.d (.u (.f 32) 3 [ap 159 [.f 1,.w fU (.h (ae 4)) (.f 77)]])] [.d (.u (.f 32) 3 [az (dn [.h (ae 5),.h (ae 7),.h (ae 6)]) (.w fU (.f 77) (.h (ae 5)))])]]]],.h (ap 171 [.f 1,.f 32])]⟩),
(293,⟨[1,20],[],[kn [80,82,66,83,7] (.f 20),.l (ce [.k a6 (ap 10 [.f 66]) (.h (ae 1)),.k a6 (ap 10 [ap 281 [.f 20]]) (.h (ae 1))]) [.h (ap 160 [.f 1,ap 292 [.f 1,az (.f 66) (.h (ae 0))],.f 7])] [],.j 8 (.j [ap 292 [.f 1,.f 88],.h (ae 0)]) (.a 88) (.f 80) [],bg 8 (.w b9 (.f 8) (dY (.j [ap 292 [.f 1,.f 88],.h (ae 1)]) (.a 88) (.f 82) [])),bg 8 (.w b9 (.f 8) (dY (.j [ap 292 [.f 1,.f 88],.h (ae 2)]) (.a 88) (.f 66) [])),.h (ap 164 [.f 1,.w b9 (.f 8) (dY (.j [ap 292 [.f 1,.f 88],.h (ae 0)]) (.a 88) (.f 83) []),.f 7])]⟩),
(294,⟨[74,20],[],[.g 23 [],.f (.a 26) (ap 283 [.f 74,.f 20]) [.l (.k d4 (ap 277 [.f 74,.h (ae 6)]) (.h (ae 0))) [.d (.u (.f 23) 3 [ap 284 [.f 74,.f 26]])] []],.l (cV [.k a6 (ap 277 [.f 74,.h (ae 4)]) (.h (ae 0)),.k a6 (ap 10 [.f 23]) (.h (ae 0))]) [.d (.u (.f 23) 3 [ap 280 [.f 74,.h (aA ai)]])] [],.h (.f 23)]⟩),
(295,⟨[96],[],[.j 97 (.f 4) (.a 4) (.n (.f 96) ah (ac (.h (ae 40)))) [],.g 74 [.h (ae 0),.f 97],bg 79 (ce [.k a6 (ap 277 [.f 74,.h (ae 8)]) (.h (ae 7)),.k d4 (ap 10 [.f 97]) (.h (ae 12))]),bg 20 (ap 280 [.f 74,.f 79]),bg 18 (ap 294 [.f 74,.f 20]),bg 1 (ap 156 []),.j 32 (ap 293 [.f 1,.f 26]) (.a 26) (.f 18) [],.l (.k a6 (ap 277 [.f 74,.h (ae 3)]) (.h (ae 0))) [.d (.u (.f 32) 3 [ap 292 [.f 1,dn [ap 277 [.f 74,.h (ae 8)]]]])] [],bg 29 (ap 293 [.f 1,.f 20]),bg 19 (ap 171 [.f 1,.f 32]),.j 63 (ap 286 [.f 26]) (.a 26) (.f 18) [],bg 95 (ap 290 [.f 20,.f 63]),bg 62 (.k d4 (ap 10 [.f 95]) (.h (ae 0))),.f (.a 98) (.f 95) [.l (.k a6 (ap 10 [ap 291 [.f 98,.f 63]]) (.h (ae 0))) [bg 62 (.h (aA ai))] []],bg 27 (ap 198 [ap 232 [.f 1],.h (ae 1)]),.d (ap 274 [.f 27]),.d (ap 259 [.f 27]),.d (ap 258 [.f 27]),.l (.k eU (ap 10 [.f 95]) (.h (ae 13))) [bg 99 (ap 291 [ap 286 [.f 20],.f 63]),.j 38 (.f 26) (.a 26) (.f 99) [cV [.k a6 (az (.f 26) (.h (ae 4))) (.h (ae 1)),.k a6 (.f 26) (ap 286 [.f 20])]],.l (.k eG (.u (.f 27) 25 [.f 29,.f 19]) (cV [.k d4 (ap 10 [.f 99]) (.h (ae 0)),.f 62])) [.h (.h (aA ai))] [],bg 40 (ce [.k a6 (ap 10 [.f 38]) (.h (ae 0)),cV [.k d4 (ap 10 [.f 99]) (.h (ae 0)),ce [.f 62,.k a6 (az (.f 20) (.h (ae 4))) (.h (ae 0))]]]),.l (.k eG (.u (aX (.f 27) 14) 31 []) (.l (.f 40) (dn [.h (ae 3)]) (dn []))) [.h (.h (aA ai))] []] [],eW (.f 27) 10 (.h (aA ai)),.j 23 (.f 26) (.a 26) (ap 165 [.f 1,.f 19]) [],.d (.u (.f 23) 6 []),.h (.k a6 (ap 256 [.f 27,.f 29,.f 23]) (.f 62))]⟩),
(1360,⟨[100],[],[.k (.f 100) 0 []]⟩),
(1361,⟨[100,101,48],[],[.d (.u (aX (.f 100) 0) 3 [.j [.f 101,.f 48]])]⟩),
(1362,⟨[100],[],[.p 10,.f (.b [101,48]) (aX (.f 100) 0) [eV (.f 10) (.f 101) (.f 48)],.h (ap 12 [.f 10])]⟩),
(3240,⟨[100],[],[.k (.f 100) 0 [],.n (.f 100) 8,.k (.f 100) 36 [.h a4],.k (.f 100) 37 [],.k (.f 100) 38 [],.k (.f 100) 39 [],.n (.f 100) 40,.n (.f 100) 41,eW (.f 100) 42 (.h (ae 0)),eW (.f 100) 43 (.h (ae 0)),.f (.a 20) (.h (.j [.j [ae 1,bP "any"],.j [ae 1,bP "unknown"],.j [ae 1,bP "never"],.j [ae 1,bP "void"],.j [ae 1,bP "undefined"],.j [ae 1,bP "null"],.j [ae 1,bP "string"],.j [ae 1,bP "number"],.j [ae 2,ae 0,ae 0],.j [ae 2,ae 1,ae 0],.j [ae 1,bP "object"],.j [ae 8,.j [],.j [],.j [],.j [],.j [],ae 0],.j [ae 6,.j [ae 8,ae 9]],.j [ae 1,bP "error"],.j [ae 2,ae 0,ae 1],.j [ae 2,ae 1,ae 1]])) [.d (.u (.f 100) 7 [.f 20])]]⟩),
(3242,⟨[100,20],[],[.l (.k c7 (.f 20) (aX (.f 100) 8)) [.h (az (aX (.f 100) 8) (.f 20))] [],bg 19 (ap 10 [aX (.f 100) 0]),.d (.u (aX (.f 100) 0) 3 [.f 20]),eV (aX (.f 100) 8) (.f 20) (.f 19),.h (.f 19)]⟩),
(4920,⟨[100,34,31],[],[eW (.f 100) 11 (.f 34),eW (.f 100) 13 (.f 31),.n (.f 100) 1,.n (.f 100) 16,.n (.f 100) 21,.k (.f 100) 15 [],.k (.f 100) 48 [],eW (.f 100) 20 (.h (ae 0)),eW (.f 100) 19 (.h (ae 0)),eW (.f 100) 14 (ap 109 []),eW (.f 100) 10 (.h (aA af)),eW (.f 100) 12 (.h a4),eW (.f 100) 49 (.h (bP "")),eW (.f 100) 50 (.h (ae 0))]⟩),
(4921,⟨[100,29,19],[],[.h (ap 204 [.f 100,.f 29,.f 19])]⟩),
(4922,⟨[100,101],[],[.l (aX (.f 100) 10) [.d (.u (aX (.f 100) 14) 7 [.f 101,aX (.f 100) 50])] []]⟩),
(4923,⟨[100,29,19],[],[.h (cV [.k a6 (.f 29) (.f 19),.u (ap 201 [.f 100]) 25 [.f 29,.f 19]])]⟩),
(4924,⟨[100],[],[.h (.j [ap 10 [aX (aX (.f 100) 14) 0],ap 10 [aX (.f 100) 15]])]⟩),
(4925,⟨[100,33],[],[.d (ap 202 [.f 100,.f 33])]⟩),
(6280,⟨[100,1],[],[eW (.f 100) 18 (.f 1),eW (.f 100) 20 (.h (ae 0)),eW (.f 100) 52 (.h (ae 200)),eW (.f 100) 53 (.h (ae 40)),eW (.f 100) 54 (.h a4)]⟩),
(6281,⟨[100,19],[],[.h (.f 19)]⟩),
(6285,⟨[100,19],[],[.h (.f 19)]⟩),
(6295,⟨[100,19,50],[],[.h (.h a4)]⟩),
(7080,⟨[100,27,23,50],[],[.h (ap 249 [aX (.f 27) 11,.f 23,.f 50])]⟩),
(7280,⟨[100,27,29,19],[],[.h (ap 256 [.f 27,.f 29,ap 165 [aX (aX (.f 27) 11) 18,.f 19]])]⟩),
(7920,⟨[100,27,29,19],[],[.h (ap 272 [.f 27,.f 29,.f 19])]⟩)]
noncomputable def qU (g:Nat):Option iR:=qm.lookup g
noncomputable abbrev bw:g_:=⟨PA⟩
noncomputable abbrev aZ:Nat→kz:=o4 bw qU
noncomputable abbrev aE (k:Nat):=zo bw qU k
noncomputable def nm (g:Nat):List ej:=match qU g with|some q=>q.body|none=>[]
noncomputable def Dd:List ej→List Nat→ej
 |_,[]=>.v
 |l,[i]=>l[i]?.getD .v
 |l,i::p=>match l[i]?,p with
  |some (.f _ _ b),p=>Dd b p
  |some (.m _ b),p=>Dd b p
  |some (.l _ a _),0::p=>Dd a p
  |some (.l _ _ b),_::p=>Dd b p
  |_,_=>.v
noncomputable def p2:List ej→List Nat→Nat
 |_,[]=>60
 |_,[_]=>59
 |l,i::p=>match l[i]?,p with
  |some (.f _ _ b),p=>p2 b p-1
  |some (.m _ b),p=>p2 b p-1
  |some (.l _ a _),0::p=>p2 a p-1
  |some (.l _ _ b),_::p=>p2 b p-1
  |_,_=>0
structure u3 where
 c:Option bt
 t:eX
 body:List ej
noncomputable def On:ej→Option u3
 |.f t _ b=>ac ⟨ah,t,b⟩
 |.m c b=>ac ⟨ac c,.b [],b⟩
 |_=>ah
noncomputable def P_ (k:Nat) (b:Option (Nat×Nat)) (ds:List aj) (L:au) (Y:ar) (q:u3):kr:=.a k ⟨q.body,q.c,q.t,b,ds,L,Y⟩
noncomputable def It (k:Nat) (d:aj) (L:au) (Y:ar) (q:u3):aT:=match q.c with
 |none=>uP (eY bw k) q.body q.t d L Y
 |some c=>sx (eY bw k) c q.body L Y
noncomputable def mH (g:Nat) (p:List Nat):u3:=(On (Dd (nm g) p)).getD ⟨ah,.b [],[]⟩
noncomputable def dS (g:Nat) (p:List Nat) (b:Option (Nat×Nat)) (ds:List aj) (L:au) (Y:ar):kr:=P_ (p2 (nm g) p) b ds L Y (mH g p)
noncomputable def p0 (g:Nat) (p:List Nat) (d:aj) (L:au) (Y:ar):aT:=It (p2 (nm g) p) d L Y (mH g p)
structure wu where
 a:bt
 b:List bt
 t:eX
mutual
noncomputable def pb:bt→List wu
 |.comp a t I f=>⟨a,f,t⟩::(pb I++(pb a++S3 f))
 |.w _ a b=>pb a++pb b
 |.q a=>pb a
 |.k _ a b=>pb a++pb b
 |.and E=>S3 E
 |.or E=>S3 E
 |.l c a b=>pb c++(pb a++pb b)
 |.j E=>S3 E
 |.list E=>S3 E
 |.sub a i=>pb a++pb i
 |.call _ E=>S3 E
 |.u a _ E=>pb a++S3 E
 |_=>[]
noncomputable def S3:List bt→List wu
 |[]=>[]
 |e::r=>pb e++S3 r
end
noncomputable def LO:ej→List wu
 |.j _ a t i f=>pb (dY a t i f)
 |.set _ e=>pb e
 |.h e=>pb e
 |.d e=>pb e
 |.l c _ _=>pb c
 |.f _ i _=>pb i
 |_=>[]
noncomputable def pd (g:Nat) (p:List Nat) (i:Nat):wu:=(LO (Dd (nm g) p))[i]?.getD ⟨.v,[],.b []⟩
noncomputable def eu (g:Nat) (p:List Nat) (i k:Nat) (ds:List aj) (L:au) (Y:ar):kr:=rJ k ⟨(pd g p i).a,(pd g p i).b,(pd g p i).t,ds,L,Y⟩
noncomputable def kx (g:Nat) (p:List Nat) (i k:Nat) (d:aj) (L:au) (Y:ar):aT:=sY (eY bw k) (pd g p i).a (pd g p i).t (pd g p i).b d L Y
noncomputable def hn (L:au):List Nat:=L.map (·.1)
section
abbrev ff (n g:Nat) (p:List Nat) (ns:List Nat) (d:aj) (L:au) (Y:ar) (f:cR) (M:au) (st':ar):Prop:=l_ (dw bw (aZ n) (p2 (nm g) p)) ns (p0 g p d L Y) f M st'
noncomputable def kw (g:Nat) (p:List Nat):Bool:=(mH g p).c.isNone
theorem hm {a k:Type} (p:List Nat) (f:a→aj) (l:List a) (F:List a→k→au) (S:List a→k→ar) (I:List a→k→Prop) (X:k) (i:I [] X) (o:kw g p=af)
  (s:∀d j r1 x,l=d++j::r1→I d x→∃m r,I (d++[j]) m∧(r=a'∨r=iz)∧ff n g p (hn (F [] X)) (f j) (F d x) (S d x) r (F (d++[j]) m) (S (d++[j]) m)∧gy b (l.map f) (S (d++[j]) m)=af):
  ∃x,I l x∧cc bw (aZ n) (dS g p b (l.map f) (F [] X) (S [] X)) a' (F l x) (S l x):=by
 unfold kw at o;unfold ff p0 at s;unfold dS;generalize mH g p=q at o s;obtain⟨c,t,B⟩:=q;cases c with
 |some _=>exact hU o
 |none=>
  have w:=O6 (Z:=fun q=>∃x,I l x∧q=(a',F l x,S l x)) (tail:=[]) (fun d j r1 x e h=>s d j r1 x e h) (fun x h=>⟨x,h,rfl⟩) l [] X rfl i;rw[c8] at w;exact ay (wI w) fun q h w=>h.elim fun x h=>⟨x,h.1,(h.2▸w:)⟩
theorem qn {o k:Type} (p:List Nat) (f:o→aj) (l:List o) (s:k→o→k) (F:k→au) (S:k→ar) (I:k→Prop) (X:k) (i:I X) (t:kw g p=af)
  (u:∀x,I x→∀j∈l,I (s x j)∧∃m,(m=a'∨m=iz)∧ff n g p (hn (F X)) (f j) (F x) (S x) m (F (s x j)) (S (s x j))∧gy b (l.map f) (S (s x j))=af):
  I (l.foldl s X)∧cc bw (aZ n) (dS g p b (l.map f) (F X) (S X)) a' (F (l.foldl s X)) (S (l.foldl s X)):=by
 obtain⟨x,⟨rfl,h⟩,w⟩:=hm p f l (fun _ x=>F x) (fun _ x=>S x) (fun d x=>x=d.foldl s X∧I x) X ⟨rfl,i⟩ t fun D j r x e h=>by
  obtain⟨a,m,b,c,q⟩:=u x h.2 j (eO e);exact⟨s x j,m,⟨by rw[re,←h.1];rfl,a⟩,b,c,q⟩
 exact⟨h,w⟩
noncomputable def zA (g:Nat) (p:List Nat):Bool:=(mH g p).c.isSome
theorem wl {a:Type} (p:List Nat) (F:a→au) (S:a→ar) (I:a→Prop) (e:a→Nat) (P:cR→au→ar→Prop) (X:a) (i:I X) (m:e X<pi) (j:zA g p=af)
  (s:∀x,I x→(∃d f,I d∧e d<e x∧(f=a'∨f=iz)∧ff n g p (hn (F X)) a4 (F x) (S x) f (F d) (S d))∨∃f M st',qt f=af∧ff n g p (hn (F X)) a4 (F x) (S x) f M st'∧P (qz f) M st'):
  ∃f M st',P f M st'∧cc bw (aZ n) (dS g p ah [] (F X) (S X)) f M st':=by
 unfold zA at j;unfold ff p0 at s;unfold dS;generalize mH g p=q at j s;obtain⟨c,t,b⟩:=q;cases c with
 |none=>exact hU j
 |some c=>exact ay (wI (OF (Z:=fun q=>P q.1 q.2.1 q.2.2) (fun x h=>s x h) pi X i m)) fun q h w=>⟨_,_,_,h,w⟩
theorem Hr {a b:Type} (p:List Nat) (i k:Nat) (f:a→aj) (l:List a) (V:List a→b→List aj) (F:List a→b→au) (S:List a→b→ar) (I:List a→b→Prop) (X:b) (e:I [] X) (v:V [] X=[])
  (s:∀d j r1 x,l=d++j::r1→I d x→∃c vs,I (d++[j]) c∧V (d++[j]) c=V d x++vs∧iD (dw bw (aZ n) k) (kx g p i k (f j) (F d x) (S d x)) vs (F (d++[j]) c) (S (d++[j]) c)):
  ∃x,I l x∧cc bw (aZ n) (eu g p i k (l.map f) (F [] X) (S [] X)) (.h (.c (V l x))) (F l x) (S l x):=ay (wI (IK (Z:=fun q=>∃x,I l x∧q=(.h (.c (V l x)),F l x,S l x)) (K:=fun vs L Y=>dW (.h (.c vs)) L Y) s l [] X rfl e fun y U m u=>⟨y,m,by rw[u,v];rfl⟩)) fun q h w=>h.elim fun x h=>⟨x,h.1,(h.2▸w:)⟩
theorem fI {a:Type} (p:List Nat) (i k:Nat) (f:a→aj) (l:List a) (V:a→List aj) (L:au) (Y:ar)
  (s:∀j∈l,iD (dw bw (aZ n) k) (kx g p i k (f j) L Y) (V j) L Y):
  cc bw (aZ n) (eu g p i k (l.map f) L Y) (.h (.c (l.flatMap V))) L Y:=by
 obtain⟨_,_,w⟩:=Hr p i k f l (fun d _=>d.flatMap V) (fun _ _=>L) (fun _ _=>Y) (fun _ _=>True) () trivial rfl fun D j r x e _=>
  ⟨(),V j,trivial,by simp,s j (eO e)⟩
 exact w
end
noncomputable abbrev ag (i:Nat):aj:=ae (i:Int)
noncomputable def c9 (R:List aj):List (aj×aj):=R.zipIdx.map fun p=>(p.1,ag p.2)
noncomputable def aF (R:List aj):o':=⟨156,[(0,b1 (.c R)),(8,b1 (.e (c9 R))),(36,b1 (.c [a4])),(37,b1 (.c [])),(38,b1 (.c [])),(39,b1 (.c [])),(40,b1 (.e [])),(41,b1 (.e [])),(42,.l (ae 0)),(43,.l (ae 0))]⟩
noncomputable def dU:List aj:=match(lD.lookup (gp "FIRST_ROWS")) with|some (.j l)=>l|_=>[]
def lK (r:aj):Prop:=aj.key 8 r=af∧i7 r=af
structure aW (R:List aj):Prop where
 nd:R.Nodup
 key:∀r∈R,lK r
 base:∃a,R=dU++a
theorem FF:∀(l:List aj) (k:Nat),((l.zipIdx k).map fun p=>(p.1,ag p.2)).map (·.1)=l:=by
 intro l;induction l with
 |nil=>
  intro _;rfl
 |cons a r i=>
  intro k;simp only[R_,eE];rw[i]
theorem o5 (R:List aj):(c9 R).map (·.1)=R:=FF R 0
theorem xw (a:∀p∈s,∃n,aj.key n p.1=af):dA k s=af↔k∈s.map (·.1):=by
 induction s with
 |nil=>exact⟨fun h=>aR h cp,fun h=>nomatch h⟩
 |cons p r i=>
  obtain⟨x,v⟩:=p;refine ak uT ?_;refine(a (x,v) kZ).elim fun n b=> ?_;rw[dK,i fun p c=>a p (je _ c),eE,eS,lz x k n b];exact or_congr_left eq_comm
theorem qQ {a k:Int} (h:a=1∨a=2∨a=3∨a=4) (q:(k==1||(k==2||(k==3||k==4)))=ai):¬a=k:=fun e=>by subst e;rcases h with rfl|rfl|rfl|rfl<;>cases q
theorem N2 {l:List aj}:∀{j i:Nat},(∀r∈l,∃n,aj.key n r=af)→l.Nodup→l[i]? =ac k→f1 k ((l.zipIdx j).map fun p=>(p.1,ag p.2))=ac (ag (j+i)):=by
 induction l with
 |nil=>exact fun _ _ h=>iC h
 |cons a r I=>
  intro j i c b h;have b:=gn.mp b;refine(((c a (cU _)).elim fun n x=> ?_):(if aj.beq a k=af then ac (ag j) else f1 k ((r.zipIdx (j+1)).map fun p=>(p.1,ag p.2)))=_)
  induction i using ir with
  |zero=>exact aJ ((lz _ _ n x).mpr (bD h))
  |succ i=>rw[aL fun e=>b.1 (by rw[(lz a k n x).mp e];exact eR h),I (fun R d=>c R (e9 _ d)) b.2 h,ev,f_ 1 i]
theorem rV:∀{s:List (aj×aj)},dA k s=ai→gd k v s=s++[(k,v)]:=by
 intro s;induction s with
 |nil=>
  intro _;rfl
 |cons X r i=>
  intro h;obtain⟨x,w⟩:=X;rw[uT,DM] at h;rw[vO,aL (by rw[h.1];decide),i h.2];rfl
theorem Dj (R:List aj) (r:aj):c9 (R++[r])=c9 R++[(r,ag R.length)]:=by
 unfold c9;simp[List.zipIdx_append]
theorem zN (R:List aj):(c9 R).length=R.length:=by unfold c9;simp
theorem aW.keys (I:aW R):∀p∈c9 R,∃n,aj.key n p.1=true:=fun p h=>⟨8,(I.key p.1 (by rw[←o5 R];exact cr.mpr (bd p h rfl))).1⟩
theorem aW.has (I:aW R) (h:r∈R):dA r (c9 R)=true:=by
 rw[xw I.keys,o5];exact h
theorem aW.hasnt (I:aW R) (h:r∉R):dA r (c9 R)=false:=by
 rw[←o5 R,←xw I.keys] at h;simpa using h
theorem aW.kq (I:aW R) (a:lK r):cT r (c9 R)=true:=by
 unfold cT;rw[a.1,Eh];induction h:c9 R using cn with
 |nil=>dsimp only;rw[a.2,Bool.or_true]
 |cons p l=>
  obtain⟨x,v⟩:=p;have:x∈R:=by rw[←o5 R,h];exact kZ
  dsimp only;rw[(I.key x this).2,a.2];simp
theorem aW.get (I:aW R) {t:Nat} (h:R[t]? =ac r):f1 r (c9 R)=ac (ag t):=by
 have:=N2 (j:=0) (fun r a=>⟨8,(I.key r a).1⟩) I.nd h;rwa[jI] at this
theorem dH (h:R[t]? =ac r):eA (.c R) (ag t)=ac r:=by
 have l:t<R.length:=by rcases hy.mp h with⟨h,_⟩;exact h
 show(i4 (t:Int) R.length).bind (fun j=>R[j]?)=_;unfold i4;rw[aJ (gG t),aJ (g5.mpr l)];show R[((t:Int)).toNat]? =_;rw[py,h]
section
noncomputable def cN.O {ds:List aj} (h:ds.length≤16777216):cN X:=.F (o:=pT (.c ds)) (v:=ag ds.length) (aJ h)
noncomputable def cN.p {ds:List aj} (e:ds.length=k) (h:k≤16777216):cN X:=.F (o:=pT (.c ds)) (v:=ag k) (by subst e;exact aJ h)
noncomputable def cN.ab {j:Nat} (h:j<i):cN X:=.z (o:=.k d4 (ag i) (ag j)) (v:=af) (by show ac (aM ((j:Int)<(i:Int)))=_;rw[cu (g5.mpr h)])
noncomputable def cN.V {j:Nat} (h:¬j<i):cN X:=.z (o:=.k d4 (ag i) (ag j)) (v:=ai) (by show ac (aM ((j:Int)<(i:Int)))=_;rw[cP (mt g5.mp h)])
noncomputable def cN.S {j:Int} (h:i<j):cN X:=.z (o:=.k eU (ae i) (ae j)) (v:=af) (by show ac (aM (i<j))=_;rw[cu h])
noncomputable def cN.H {j:Int} (h:¬i<j):cN X:=.z (o:=.k eU (ae i) (ae j)) (v:=ai) (by show ac (aM (i<j))=_;rw[cP h])
noncomputable def cN.Z {j:Int} (h:i≤j):cN X:=.z (o:=.k oq (ae i) (ae j)) (v:=af) (by show ac (aM (i≤j))=_;rw[cu h])
noncomputable def cN.P {j:Int} (h:j<i):cN X:=.z (o:=.k d4 (ae i) (ae j)) (v:=af) (by show ac (aM (j<i))=_;rw[cu h])
noncomputable def cN.Q {j:Int} (h:¬j<i):cN X:=.z (o:=.k d4 (ae i) (ae j)) (v:=ai) (by show ac (aM (j<i))=_;rw[cP h])
noncomputable def cN.N {j:Int} (h:j≤i):cN X:=.z (o:=.k jl (ae i) (ae j)) (v:=af) (by show ac (aM (j≤i))=_;rw[cu h])
noncomputable def cN.D {j:Int} (h:¬j≤i):cN X:=.z (o:=.k jl (ae i) (ae j)) (v:=ai) (by show ac (aM (j≤i))=_;rw[cP h])
noncomputable def cN.set (h:gW c i v=ac a):cN X:=.I (o:=ou c i v) (d:=a4) (v:=a) (by show(gW c i v).map _=_;rw[h];rfl)
noncomputable def cN.row {R:List aj} {t:Nat} (h:R[t]? =ac r):cN X:=.get (q:=.c R) (d:=ag t) (v:=r) (dH h)
end
theorem Nh (I:aW R) (h:R[t]? =ac row):aE 1 3242 [.l (an 0),.l row] (aF R::J) (ag t) [] (aF R::J):=zo.of _ _ fun n _=>by
 have m:=eR h;have k:=I.kq (I.key _ m);have a:cX row (.e (c9 R))=ac true:=by show(if cT row (c9 R) then ac (dA row (c9 R)) else ah)=_;rw[aJ k,I.has m]
 have b:eA (.e (c9 R)) row=ac (ag t):=by show(if cT row (c9 R) then f1 row (c9 R) else ah)=_;rw[aJ k,I.get h]
 exact aw 0 [.has a,.get b]
theorem Lh (I:aW R) (h:row∉R) (k:lK row) (l:R.length≤1000000):aE 1 3242 [.l (an 0),.l row] (aF R::J) (ag R.length) [] (aF (R++[row])::J):=zo.of _ _ fun n _=>by
 have q:=I.kq k;have a:cX row (.e (c9 R))=ac false:=by show(if cT row (c9 R) then ac (dA row (c9 R)) else ah)=_;rw[aJ q,I.hasnt h]
 have b:fJ 3 (.c R) [row]=ac (a4,.c (R++[row])):=aJ (l);have c:gW (.e (c9 R)) row (ag R.length)=ac (.e (c9 (R++[row]))):=by
  show(if cT row (c9 R)∧(c9 R).length≤b4 then _ else _)=_
  rw[aJ ⟨q,by rw[zN];exact l⟩,rV (I.hasnt h),Dj]
 exact aw 0 [.has a,.O (aD l rfl),.u b,.set c]
noncomputable def ii:Nat→aj
 |0=>.j [ae 4,ae 0,ae 0]
 |1=>.j [ae 4,ae 1,ae 0]
 |2=>.j [ae 3,bP "a",ae 0]
 |3=>.j [ae 2,ae 1,ae 0]
 |4=>.j [ae 2,ae 0,ae 0]
 |5=>.j [ae 1,bP "null"]
 |6=>.j [ae 1,bP "number"]
 |7=>.j [ae 1,bP "string"]
 |_=>.j [ae 1,bP "undefined"]
noncomputable def jb:Nat→Int
 |0=>7
 |1=>7
 |2=>6
 |_=> -1
inductive jD:aj→Int→Prop
 |b (x:aj):jD (.j [.int 4,x,.int 0]) 7
 |str (x:aj):jD (.j [.int 3,x,.int 0]) 6
 |bool (x:aj):jD (.j [.int 2,x,.int 0]) (-1)
 |key (x:aj):jD (.j [.int 1,x]) (-1)
 |c (e r:aj):jD (.j [.int 11,e,r]) (-1)
 |j (e r:aj):jD (.j [.int 12,e,r]) (-1)
theorem tm:∀u,u<9→jD (ii u) (jb u)
 |0,_=>.b _|1,_=>.b _|2,_=>.str _|3,_=>.bool _|4,_=>.bool _|5,_=>.key _|6,_=>.key _|7,_=>.key _|8,_=>.key _
 |_+9,h=>aR h (e7 (dN (.g 1 (.n 9) (.a .b (.n 9))) rfl))
theorem yS (h:jD row w):aE 1 166 [.l row] Y (ae w) [] Y:=zo.of _ _ fun n _=>by
 induction h
 ·exact aw 0 []
 ·exact aw 0 []
 ·exact aw 0 []
 ·exact aw 0 []
 ·exact aw 0 []
 ·exact aw 0 []
theorem Mk {R:List aj} {J:ar} (h:R[t]? =ac (.j [ae 6,p])) (a:t≠2):aE 1 165 [.l (an 0),.l (ag t)] (aF R::J) p [] (aF R::J):=zo.of _ _ fun n _=>by
 have b:¬(t:Int)=2:=fun e=>a (dh e);exact aw 0 [.C b,.row h]
theorem H0 (h:R[t]? =ac row) (a:jD row w) (b:t≠2):aE 1 165 [.l (an 0),.l (ag t)] (aF R::J) (.j [ag t]) [] (aF R::J):=zo.of _ _ fun n _=>by
 induction a<;>exact aw 0 [.C (fun e=>b (dh e)),.row h]
theorem Jm (h:R[t]? =ac row) (a:jD row w):aE 1 167 [.l (an 0),.l (ag t)] (aF R::J) (ae (-1)) [] (aF R::J):=zo.of _ _ fun n _=>by
 induction a<;>exact aw 0 [.row h]
noncomputable def b7 (G:List Nat):List (aj×aj):=G.map fun i=>(ag i,ae 1)
theorem mh:aj.beq (ag i) (ag j)=aM (i=j):=by
 show((i:Int)==(j:Int))=_;by_cases h:i=j
 ·subst h;simp
 ·rw[cP h];exact c5.mpr fun e=>h (dh e)
theorem J7:∀{G:List Nat},dA (ag i) (b7 G)=aM (i∈G):=by
 intro G;induction G with
 |nil=>
  exact(cP kh).symm
 |cons j G I=>
  show(aj.beq (ag j) (ag i)||dA (ag i) (b7 G))=_;rw[I,mh];by_cases h:i=j
  ·subst h;simp
  ·have a:¬j=i:=fun e=>h e.symm;simp[h,a]
theorem M7:∀{G:List Nat},dA (ae (-1)) (b7 G)=false:=by
 intro G;induction G with
 |nil=>rfl
 |cons j G i=>
  show(((j:Int)==(-1))||dA (ae (-1)) (b7 G))=ai;rw[i,Sy];simp
theorem wJ:cT (ae i) (b7 G)=true:=by
 unfold cT;induction G<;>rfl
theorem tC:cX (ag i) (.e (b7 G))=ac (aM (i∈G)):=by
 show(if cT (ag i) (b7 G) then ac (dA (ag i) (b7 G)) else ah)=_;rw[aJ wJ,J7]
theorem C4:cX (ae (-1)) (.e (b7 G))=ac false:=by
 show(if cT (ae (-1)) (b7 G) then ac (dA (ae (-1)) (b7 G)) else ah)=_;rw[aJ wJ,M7]
noncomputable def gz (i:Nat) (G:List Nat):List Nat:=if i∈G then G else G++[i]
theorem Gs:∀{G:List Nat},gd (ag i) (ae 1) (b7 G)=b7 (gz i G):=by
 intro G;induction G with
 |nil=>rfl
 |cons j G I=>
  show(if aj.beq (ag j) (ag i)=af then(ag j,ae 1)::b7 G else(ag j,ae 1)::gd (ag i) (ae 1) (b7 G))=_
  refine ak mh (ak I ?_);unfold gz;by_cases h:j=i
  ·subst h;simp[b7]
  ·have a:¬i=j:=fun e=>h e.symm;by_cases m:i∈G
   ·simp[h,a,m,b7]
   ·simp[h,a,m,b7]
theorem qc (h:G.length≤1000000):gW (.e (b7 G)) (ag i) (ae 1)=ac (.e (b7 (gz i G))):=by
 show(if cT (ag i) (b7 G)∧(b7 G).length≤b4 then _ else _)=_
 rw[aJ ⟨wJ,by unfold b7;rw[aB];exact h⟩,Gs]
theorem zH (h:i∈G):gz i G=G:=aJ h
theorem PN (b: -1≤w):cX (ae w) (.e (b7 G))=ac (aM (∃i∈G,(i:Int)=w)):=by
 by_cases h:w= -1
 ·subst h;rw[C4,cP];rintro ⟨i,_,e⟩;cases e
 ·obtain⟨j,rfl⟩:=Ro (show 0≤w from Int.lt_iff_le_and_ne.mpr ⟨b,oh h⟩);have:=tC (i:=j) (G:=G);rw[show(ae (j:Int))=ag j from rfl,this];congr 1;by_cases a:j∈G
  ·rw[cu a,cu];exact bd j a rfl
  ·rw[cP a,cP];rintro ⟨i,c,e⟩;exact a (dh e▸c)
theorem Qo (c:14∉G) (d:15∉G) (l:G.length≤1000000):aE 1 168 [.a (.e (b7 G))] Y a4 [.e (b7 G)] Y:=zo.of _ _ fun n _=>by
 have h (i:Nat):cX (ag i) (.e (b7 G))=ac (aM (i∈G)):=tC;have c:cX (ae 14) (.e (b7 G))=ac false:=by rw[←cP c];exact h 14
 have d:cX (ae 15) (.e (b7 G))=ac false:=by rw[←cP d];exact h 15
 have a:=h 8;have b:=h 9;by_cases e:8∈G
 ·have a:=cu e▸a;by_cases E:9∈G
  ·have b:=cu E▸b;have s:gW (.e (b7 G)) (ae 8) (ae 1)=ac (.e (b7 G)):=by have:=qc (i:=8) l;rwa[zH e] at this
   have S:gW (.e (b7 G)) (ae 9) (ae 1)=ac (.e (b7 G)):=by have:=qc (i:=9) l;rwa[zH E] at this
   exact aw 0 [.has a,.has b,.set s,.set S]
  ·have b:=cP E▸b;exact aw 0 [.has a,.has b,.has d]
 ·have a:=cP e▸a;exact aw 0 [.has a,.has c]
theorem L3 (d:0∉G) (e:13∉G) (f:1∉G):aE 1 170 [.a (.e (b7 G))] Y (ae (-1)) [.e (b7 G)] Y:=zo.of _ _ fun n _=>by
 have h (i:Nat) (a:i∉G):cX (ag i) (.e (b7 G))=ac false:=by rw[←cP a];exact tC
 have l:=qn (n:=n) (g:=170) (b:=ah) [0] ag [0,13,1] (fun x _=>x) (fun _=>[(22,.a (.e (b7 G)))]) (fun _=>Y) (fun _=>True) () trivial rfl
  fun x _ j c=>⟨trivial,a',av rfl,by
   have a:j∉G:=fun h=>by
    simp only[eS,kh,or_false] at c;rcases c with rfl|rfl|rfl<;>contradiction
   exact bq 0 [.has (h j a)],rfl⟩
 exact aw 0 [.sub l.2]
theorem ON (h:R[t]? =ac row) (a:jD row w):
  aE 2 169 [.l (an 0),.a (.e (b7 G)),.l (ag t)] (aF R::J) (aA (!aM (∃i∈G,(i:Int)=w))) [.e (b7 G)] (aF R::J):=zo.of _ _ fun n b=>by
 exact aw 0 [.call (Jm (J:=J) h a n b),.has (C4 (G:=G)),.row h,.call (yS (Y:=aF R::J) a n b),.has (PN (G:=G) (w:=w) (by induction a<;>decide))]
def gR (R:List aj) (t:Nat) (O:List Nat):Prop:=t≠2∧((∃r w,R[t]? =ac r∧jD r w∧O=[t])∨(R[t]? =ac (.j [ae 6,.j (O.map ag)])∧2≤O.length))
theorem jo (h:gR R t O):aE 1 165 [.l (an 0),.l (ag t)] (aF R::J) (.j (O.map ag)) [] (aF R::J):=by
 obtain⟨b,⟨r,w,h,a,rfl⟩|⟨h,_⟩⟩:=h
 ·exact H0 h a b
 ·exact Mk h b
noncomputable def nA (a:Nat):List Nat→List Nat
 |[]=>[a]
 |b::r=>if a≤b then a::b::r else b::nA a r
noncomputable def kv:List Nat→List Nat
 |[]=>[]
 |a::r=>nA a (kv r)
theorem Kq (a:Nat):∀l:List Nat,l9 (a:Int) (l.map k6)=(nA a l).map Int.ofNat:=by
 intro l;induction l with
 |nil=>rfl
 |cons b r i=>
  show(if(a:Int)≤(b:Int) then _ else(b:Int)::l9 (a:Int) (r.map k6))=(if a≤b then a::b::r else b::nA a r).map _
  by_cases h:a≤b
  ·rw[aJ h,aJ (gq.mpr h)];rfl
  ·rw[aL h,aL (fun z=>h (gq.mp z)),i];rfl
theorem JB:∀l:List Nat,nI (l.map k6)=(kv l).map Int.ofNat:=by
 intro l;induction l with
 |nil=>rfl
 |cons a r i=>
  show l9 (a:Int) (nI (r.map k6))=_;rw[i,Kq];rfl
theorem AT:nA a (b::r)=if a≤b then a::b::r else b::nA a r:=rfl
theorem yZ (a:Nat):∀l:List Nat,(nA a l).Perm (a::l):=by
 intro l;induction l with
 |nil=>exact rD _
 |cons b r i=>
  refine ak AT ?_;split
  ·exact rD _
  ·exact((i).cons b).trans (.swap _ _ _)
theorem mC:∀l:List Nat,(kv l).Perm l:=fun l=>l.rec (rD _) fun a r i=>(yZ a _).trans ((i).cons a)
theorem H2:∀{l:List Nat},l.Pairwise (·≤·)→(nA a l).Pairwise (·≤·):=by
 intro l;induction l with
 |nil=>
  intro _;exact Rf _ _
 |cons b r i=>
  intro h;obtain⟨e,f⟩:=pr.mp h;refine ak AT ?_;split
  ·rename_i d;exact pr.mpr ⟨fun x c=>by
    rcases eS.mp c with rfl|c
    ·exact d
    ·exact Nat.le_trans d (e x c),h⟩
  ·rename_i d;refine pr.mpr ⟨fun x c=> ?_,i f⟩;rcases eS.mp ((yZ a r).mem_iff.mp c) with rfl|c
   ·exact cD (.c 1 (.a .b .n1) .f (.g 1 .b .f)) rfl (Nat.lt_of_not_le d)
   ·exact e x c
theorem Op:∀l:List Nat,(kv l).Pairwise (·≤·):=fun l=>l.rec h7 fun a r i=>H2 (i)
noncomputable def dx (H:List (Nat×List Nat)) (G:List Nat):List Nat:=H.foldl (fun G p=>p.2.foldl (fun G i=>gz i G) G) G
theorem pU:j∈gz i G↔j=i∨j∈G:=by
 unfold gz;split
 ·rename_i h;exact⟨aI,fun a=>a.elim (fun e=>e▸h) id⟩
 ·simp[or_comm]
theorem w_ (h:G.Nodup):(gz i G).Nodup:=by
 unfold gz;split
 ·exact h
 ·rename_i c;exact ke.mpr ⟨h,by simp,fun a d b f e=>c (by rw[bW.mp f] at e;exact e▸d)⟩
theorem K5:∀{l G:List Nat},j∈l.foldl (fun G i=>gz i G) G↔j∈l∨j∈G:=by
 intro l;induction l with
 |nil=>
  intro _;simp
 |cons i l I=>
  intro G;rw[t_,I,pU,eS,or_assoc,or_left_comm]
theorem Gj:∀{l G:List Nat},G.Nodup→(l.foldl (fun G i=>gz i G) G).Nodup
 |[],_,h=>h
 |i::l,G,h=>Gj (l:=l) (w_ h)
theorem sn:∀{H:List (Nat×List Nat)} {G:List Nat},j∈dx H G↔(∃p∈H,j∈p.2)∨j∈G:=by
 intro H;induction H with
 |nil=>
  intro _;simp[dx]
 |cons p H I=>
  intro G;show j∈dx H (p.2.foldl (fun G i=>gz i G) G)↔_;rw[I,K5];constructor
  ·rintro (⟨q,a,b⟩|h|h)
   ·exact av (bd q (je _ a) b)
   ·exact av (bd p kZ h)
   ·exact aI h
  ·rintro (⟨q,a,b⟩|h)
   ·rcases eS.mp a with rfl|a
    ·exact .inr (.inl b)
    ·exact .inl (bd q a b)
   ·exact .inr (.inr h)
theorem B2:∀{H:List (Nat×List Nat)} {G:List Nat},G.Nodup→(dx H G).Nodup
 |[],_,h=>h
 |p::H,G,h=>B2 (H:=H) (Gj h)
noncomputable def Be:aj→Int
 |.j (.int 3::_)=>6
 |.j (.int 4::_)=>7
 |_=> -1
theorem jD.wh (h:jD row w):w=Be row:=by induction h<;>rfl
noncomputable def mP (R:List aj) (i:Nat):Int:=Be ((R[i]?).getD a4)
noncomputable def fC (R:List aj) (G:List Nat):List Nat:=(kv G).filter fun i=> !aM (∃j∈G,(j:Int)=mP R i)
structure s4 (R:List aj) (i:Nat):Prop where
 row:∃row w,R[i]? =ac row∧jD row w
 q:i≠0∧i≠1∧i≠13∧i≠14∧i≠15
theorem Qr:∀G:List Nat,sX ((b7 G).map (·.1))=ac (G.map k6):=by
 intro G;induction G with
 |nil=>rfl
 |cons i G I=>
  refine((ak (I) ?_):(sX ((b7 G).map (·.1))).map _=_);rfl
theorem BN (G:List Nat):(b7 G).length=G.length:=by unfold b7;rw[aB]
theorem ng {f:b→β}:∀l:List b,l.flatMap (fun j=>if p j then[f j] else[])=(l.filter p).map f:=by
 intro l;induction l with
 |nil=>rfl
 |cons a r i=>
  rw[D3,ri,i];cases p a<;>rfl
theorem aW.snoc (I:aW R) (m:row∉R) (k:lK row):aW (R++[row]):=by
 refine I.base.elim fun r e=> ?_;exact⟨ke.mpr ⟨I.nd,by simp,fun x a y b e=>m (by rw[bW.mp b] at e;exact e▸a)⟩,fun x a=>by
  rcases dD.mp a with h|h
  ·exact I.key x h
  ·rw[List.mem_singleton.mp h];exact k,⟨r++[row],by rw[e,List.append_assoc]⟩⟩
theorem zn (I:aW R) (k:lK row) (l:R.length≤1000000):∃t r,aE 1 3242 [.l (an 0),.l row] (aF R::J) (ag t) [] (aF r::J)∧aW r∧r[t]? =ac row∧(r=R∨r=R++[row]):=by
 by_cases h:row∈R
 ·obtain⟨t,a,e⟩:=ra h;have e:R[t]? =ac row:=by rw[cS a,e]
  exact hK t R (Nh I e) I e (av rfl)
 ·exact hK R.length (R++[row]) (Lh I h k l) (I.snoc h k) (by simp) (aI rfl)
theorem Jh {l:List Nat}:aj.key 8 (.j [ae 6,.j (l.map ag)])=true:=by
 have h:(l.map ag).all (aj.key 6)=true:=by rw[pD,cH];exact fun _ _=>rfl
 refine((ak h ?_):(af&&((l.map ag).all (aj.key 6)&&af))=af);rfl
theorem C1 {X:aj} (I:aW R) (F:X=.c (H.map fun p=>ag p.1)∨X=.j (H.map fun p=>ag p.1)) (α:∀p∈H,gR R p.1 p.2) (o:∀p∈H,∀i∈p.2,s4 R i)
  (A:(dx H []).length<64) (u:fC R (dx H [])≠[]) (β:R.length≤1000000):
  ∃t x,aE 4 171 [.l (an 0),.l X] (aF R::J) (ag t) [] (aF x::J)∧aW x∧(x=R∨x=R++[.j [ae 6,.j ((fC R (dx H [])).map ag)]])∧
   ((fC R (dx H [])=[t]∧x=R)∨(2≤(fC R (dx H [])).length∧x[t]? =ac (.j [ae 6,.j ((fC R (dx H [])).map ag)]))):=by
 have L:∀i∈dx H [],s4 R i:=fun i v=>by
  rcases sn.mp v with⟨p,y,z⟩|h
  ·exact o p y i z
  ·cases h
 have γ:∀p∈H,∀i∈p.2,i∈dx H []:=fun p h i v=>sn.mpr (av ⟨p,h,v⟩);have δ:∀G:List Nat,G.Nodup∧(∀i∈G,i∈dx H [])→G.length≤1000000:=fun G h=>ao (h.1.length_le_of_subset h.2) (aD (gJ A) rfl);have ε:∀(G:List Nat) i,i∈dx H []→G.Nodup∧(∀i∈G,i∈dx H [])→(gz i G).Nodup∧(∀j∈gz i G,j∈dx H []):=fun G i v h=>⟨w_ h.1,fun j ζ=>(pU.mp ζ).elim (fun e=>e▸v) (h.2 j)⟩;have l:∀n,3≤n→cc bw (aZ n) (dS 171 [1] ah (H.map fun p=>ag p.1) [(1,.l (an 0)),(23,.l X),(22,bE (.e []))] (aF R::J)) a' [(1,.l (an 0)),(23,.l X),(22,bE (.e (b7 (dx H []))))] (aF R::J):=fun n f=>
  (qn [1] (fun p=>ag p.1) H (fun G p=>p.2.foldl (fun G i=>gz i G) G) (fun G=>[(1,.l (an 0)),(23,.l X),(22,bE (.e (b7 G)))]) (fun _=>aF R::J) (fun G=>G.Nodup∧∀i∈G,i∈dx H []) [] ⟨h7,fun _ h=>nomatch h⟩ rfl fun G h p M=>by
   obtain⟨a,q⟩:=qn (n:=n) (g:=171) (b:=ah) [1,0] ag p.2 (fun G i=>gz i G) (fun G=>[(1,.l (an 0)),(23,.l X),(22,bE (.e (b7 G))),(19,.l (ag p.1))]) (fun _=>aF R::J) (fun G=>G.Nodup∧∀i∈G,i∈dx H []) G h rfl fun G h i v=>
    ⟨ε G i (γ p M i v) h,a',av rfl,by exact bq 0 [.set (qc (i:=i) (δ G h))],rfl⟩
   exact⟨a,a',av rfl,by exact bq 0 [.call (jo (J:=J) (α p M) n (bl f rfl)),.sub q],rfl⟩).2
 have C:∀n,3≤n→cc bw (aZ n) (eu 171 [5] 0 59 ((kv (dx H [])).map ag) [(1,.l (an 0)),(23,.l X),(22,bE (.e (b7 (dx H [])))),(24,.l (ae (-1)))] (aF R::J)) (.h (.c ((fC R (dx H [])).map ag))) [(1,.l (an 0)),(23,.l X),(22,bE (.e (b7 (dx H [])))),(24,.l (ae (-1)))] (aF R::J):=fun n f=>by
  unfold fC;rw[←ng];refine fI [5] 0 59 ag _ _ _ _ fun i v=> ?_;obtain⟨⟨row,w,P,Q⟩,_⟩:=L i ((mC _).mem_iff.mp v);have E:=ON (G:=dx H []) (J:=J) P Q n (bl f rfl);have η:mP R i=w:=by unfold mP;exact ak P Q.wh.symm
  refine ak η ?_;cases e: !aM (∃j∈dx H [],(j:Int)=w)<;>rw[e] at E
  ·exact cZ 0 [.call E]
  ·exact cZ 0 [.call E]
 have N:∀k,(k=0∨k=1∨k=13∨k=14∨k=15)→k∉dx H []:=fun k u m=>by
  exact i6 ((L k m).q) fun a b c d e=>u.elim a fun u=>u.elim b fun u=>u.elim c fun u=>u.elim d e
 have S:=L3 (Y:=aF R::J) (N 0 (by simp)) (N 13 (by simp)) (N 1 (by simp));have T:=Qo (Y:=aF R::J) (N 14 (by simp)) (N 15 (by simp)) (aD (gJ A) rfl);have s:(uI (b7 (dx H []))).e=ac (.c ((kv (dx H [])).map ag)):=by
  show(if(b7 (dx H [])).length<64 then _ else _)=_
  rw[aJ (by rw[BN];exact A),Qr];show ac (aj.c ((nI ((dx H []).map k6)).map ae))=_;rw[JB,eg];rfl
 have B:((kv (dx H [])).map ag).length≤b4:=by rw[aB,(mC _).length_eq];exact aD (gJ A) rfl
 have U:(fC R (dx H [])).length≤400:=ao (hY _ _) (by rw[(mC _).length_eq];exact aD (gJ A) rfl);generalize fC R (dx H [])=θ at*
 match θ,u with
 |[t],_=>
  refine hK t R (zo.of _ _ fun n f=> ?_) I (av rfl) (av ⟨rfl,rfl⟩);have y:=S n (bl f rfl);have z:=T n (bl f rfl);rcases F with rfl|rfl
  ·exact aw 256 [.sub (l n f),.call y,.call z,.F s,.le B,.sub (C n f)]
  ·exact aw 256 [.sub (l n f),.call y,.call z,.F s,.le B,.sub (C n f)]
 |a::b::r,_=>
  refine ia (zn (J:=J) (row:=.j [ae 6,.j ((a::b::r).map ag)]) I ⟨Jh,rfl⟩ β) fun t x ι κ μ ν=>hK t x (zo.of _ _ fun n f=> ?_) κ ν (aI ⟨gH _ _,μ⟩);have y:=S n (bl f rfl);have z:=T n (bl f rfl);have V:=ι n (bl f rfl);have D:((a::b::r).map ag).length≤16777216:=by rw[aB];exact aD U rfl
  have W:¬(((a::b::r).map ag).length:Int)=1:=fun e=>D9 _ (ue (dh e));have Z:(wk.k d4 (ag ((a::b::r).map ag).length) (ae 400)).e=ac false:=by
   show ac (aM ((400:Int)<(((a::b::r).map ag).length:Int)))=_;rw[cP];rw[aB];exact hD.mpr (gq.mpr U)
  rcases F with rfl|rfl
  ·exact aw 16777472 [.sub (l n f),.call y,.call z,.F s,.le B,.sub (C n f),.O D,.C W,.O D,.z Z,.call V]
  ·exact aw 16777472 [.sub (l n f),.call y,.call z,.F s,.le B,.sub (C n f),.O D,.C W,.O D,.z Z,.call V]
def gi (k:List Nat):Prop:=k≠[]∧k.Pairwise (·<·)∧(∀u∈k,u<9)∧(6∈k→0∉k∧1∉k)∧(7∈k→2∉k)
noncomputable def ci (us:List Nat) (u:Nat):Bool:=((u==0||u==1)&&us.contains 6)||(u==2&&us.contains 7)
noncomputable def cM (us:List Nat):List Nat:=(cv 9).filter fun u=>us.contains u&& !ci us u
theorem fp:u∈cM us↔u<9∧u∈us∧ci us u=false:=by
 unfold cM;rw[c_,hB];simp
theorem lr (h:∃u∈us,u<9):gi (cM us):=by
 refine⟨?_, ?_,fun u b=>(fp.mp b).1,fun c=> ?_,fun d=> ?_⟩
 ·obtain⟨u,b,g⟩:=h;intro e;have n:∀v,v∉cM us:=fun v f=>by rw[e] at f;cases f
  by_cases a:ci us u=af
  ·unfold ci at a;simp only[dK,fu,dL,tY,n6] at a;rcases a with⟨_,c⟩|⟨_,d⟩
   ·exact n 6 (fp.mpr ⟨eM [] (.g 1 (.a (.n 6) .n1) (.n 9)) rfl,c,by simp[ci]⟩)
   ·exact n 7 (fp.mpr ⟨eM [] (.g 1 (.a (.n 7) .n1) (.n 9)) rfl,d,by simp[ci]⟩)
  ·exact n u (fp.mpr ⟨g,b,by simpa using a⟩)
 ·exact List.Pairwise.sublist List.filter_sublist List.pairwise_lt_range
 ·have i:=(fp.mp c).2.1;refine⟨fun h=> ?_,fun h=> ?_⟩<;>(have:=(fp.mp h).2.2;simp[ci,i] at this)
 ·have j:=(fp.mp d).2.1;intro h;have:=(fp.mp h).2.2;simp[ci,j] at this
theorem oI {m:List Nat} (c:l.Pairwise (·<·)) (d:m.Pairwise (·<·)) (h:∀x,x∈l↔x∈m):l=m:=Q1 (fun a b _ _ p q=>aR (rt p q) (gI _)) c d ((List.perm_ext_iff_of_nodup (c.imp hZ) (d.imp hZ)).mpr h)
theorem q6 (h:gi k):cM k=k:=by
 refine oI (lr ?_).2.1 h.2.1 fun u=> ?_
 ·cases k with
  |nil=>exact aR rfl h.1
  |cons a r=>exact⟨a,kZ,h.2.2.1 a kZ⟩
 ·rw[fp];refine⟨fun f=>f.2.1,fun b=>⟨h.2.2.1 u b,b, ?_⟩⟩;unfold ci;rw[DM];constructor
  ·by_cases c:6∈k
   ·have:=h.2.2.2.1 c;have g:u≠0:=fun e=>this.1 (e▸b);have i:u≠1:=fun e=>this.2 (e▸b);simp[g,i]
   ·simp[c]
  ·by_cases d:7∈k
   ·have j:u≠2:=fun e=>h.2.2.2.2 d (e▸b);simp[j]
   ·simp[d]
def cq (R:List aj) (i u:Nat):Prop:=R[i]? =ac (ii u)∧u<9
theorem p_ {P:Nat→Prop} (h:P 0∧P 1∧P 2∧P 3∧P 4∧P 5∧P 6∧P 7∧P 8):∀u,u<9→P u
 |0,_=>h.1|1,_=>h.2.1|2,_=>h.2.2.1|3,_=>h.2.2.2.1|4,_=>h.2.2.2.2.1|5,_=>h.2.2.2.2.2.1|6,_=>h.2.2.2.2.2.2.1|7,_=>h.2.2.2.2.2.2.2.1|8,_=>h.2.2.2.2.2.2.2.2
 |_+9,h=>aR h (e7 (dN (.g 1 (.n 9) (.a .b (.n 9))) rfl))
theorem wt (u:Nat) (h:u<9):aj.key 8 (ii u)=true:=p_ (P:=fun u=>aj.key 8 (ii u)=af) (by decide+kernel) u h
theorem Jw (h:u<9) (a:v<9) (e:ii u=ii v):u=v:=by
 have:∀u,u<9→∀v,v<9→aj.beq (ii u) (ii v)=af→u=v:=by decide+kernel
 exact this u h v a ((lz _ _ 8 (wt u h)).mpr e)
theorem o7 {R:List aj} (h:R.Nodup) {j:Nat} (a:R[i]? =ac r) (b:R[j]? =ac r):i=j:=(D1 (hy.mp a).1 h).mp (a.trans b.symm)
theorem cq.inj {R:List aj} (I:aW R) {j:Nat} (a:cq R i u) (b:cq R j u):i=j:=o7 I.nd a.1 b.1
theorem cq.code (a:cq R i u) (b:cq R i v):u=v:=Jw a.2 b.2 (bD (a.1.symm.trans b.1))
theorem aW.at (I:aW R) (h:t<16):R[t]? =dU[t]? :=by
 obtain⟨r,rfl⟩:=I.base;exact jF (h)
theorem aW.un (I:aW R):cq R 4 8∧cq R 5 5∧cq R 6 7∧cq R 7 6∧cq R 8 4∧cq R 9 3:=
 ⟨⟨by rw[I.at (eM [] (.g 1 (.a (.n 4) .n1) (.n 16)) rfl)];rfl,eM [] (.g 1 (.a (.n 8) .n1) (.n 9)) rfl⟩,⟨by rw[I.at (eM [] (.g 1 (.a (.n 5) .n1) (.n 16)) rfl)];rfl,eM [] (.g 1 (.a (.n 5) .n1) (.n 9)) rfl⟩,⟨by rw[I.at (eM [] (.g 1 (.a (.n 6) .n1) (.n 16)) rfl)];rfl,eM [] (.g 1 (.a (.n 7) .n1) (.n 9)) rfl⟩,⟨by rw[I.at (eM [] (.g 1 (.a (.n 7) .n1) (.n 16)) rfl)];rfl,eM [] (.g 1 (.a (.n 6) .n1) (.n 9)) rfl⟩,⟨by rw[I.at (eM [] (.g 1 (.a (.n 8) .n1) (.n 16)) rfl)];rfl,eM [] (.g 1 (.a (.n 4) .n1) (.n 9)) rfl⟩,⟨by rw[I.at (eM [] (.g 1 (.a (.n 9) .n1) (.n 16)) rfl)];rfl,eM [] (.g 1 (.a (.n 3) .n1) (.n 9)) rfl⟩⟩
theorem aW.far (I:aW R) (h:R[i]? =ac row) (k:aj.key 8 row=af) (b:∀t,t<16→t∈[0,1,2,3,10,11,12,13,14,15]→aj.beq row ((dU[t]?).getD a4)=ai):i∉[0,1,2,3,10,11,12,13,14,15]:=fun m=>by
 have a:i<16:=(by decide:∀j∈([0,1,2,3,10,11,12,13,14,15]:List Nat),j<16) i m;have:=b i a m;rw[←I.at a,h] at this;rw[nW,(lz row row 8 k).mpr rfl] at this;cases this
theorem cq.far (I:aW R) (a:cq R i u):i∉[0,1,2,3,10,11,12,13,14,15]:=I.far a.1 (wt u a.2) (by
 have:∀u,u<9→∀t,t<16→t∈[0,1,2,3,10,11,12,13,14,15]→aj.beq (ii u) ((dU[t]?).getD a4)=false:=by decide+kernel
 exact this u a.2)
theorem cq.ok (I:aW R) (a:cq R i u):s4 R i:=by
 have q {j:Nat} (h:j∈[0,1,2,3,10,11,12,13,14,15]):i≠j:=fun e=>a.far I (e▸h);exact⟨⟨_,_,a.1,tm u a.2⟩,kS (q (by decide)) (q (by decide)) (q (by decide)) (q (by decide)) (q (by decide))⟩
structure bH (R:List aj) (t:Nat) (k O:List Nat):Prop where
 pt:gR R t O
 sorted:O.Pairwise (·<·)
 nk:gi k
 to:∀i∈O,∃u∈k,cq R i u
 fr:∀u∈k,∃i∈O,cq R i u
theorem P8 {m:List Nat} (h:l.map ag=m.map ag):l=m:=(DV fun _ _ e=>dh (aj.int.inj e)).mp h
theorem bH.ids_of (I:aW R) {t:Nat} (a:bH R t k O) (b:bH R t' k n):O=n:=
 oI a.sorted b.sorted fun i=>⟨fun h=>by
  obtain⟨u,e,g⟩:=a.to i h;obtain⟨j,l,m⟩:=b.fr u e;rw[g.inj I m];exact l,fun h=>by
  obtain⟨u,e,g⟩:=b.to i h;obtain⟨j,l,m⟩:=a.fr u e;rw[g.inj I m];exact l⟩
theorem bH.uniq {R:List aj} (I:aW R) {t':Nat} (a:bH R t k O) (b:bH R t' k i):t=t':=by
 have e:=a.ids_of I b;subst e;rcases a.pt.2 with⟨_,_,_,_,e⟩|⟨h,l⟩<;>rcases b.pt.2 with⟨_,_,_,_,E⟩|⟨j,g⟩
 ·rw[e] at E;cases E;rfl
 ·rw[e] at g;simp at g
 ·rw[E] at l;simp at l
 ·exact o7 I.nd h j
theorem mE (I:aW R) {t:Nat} (a:bH R t k O) (b:bH R t k' p):k=k'∧O=p:=by
 have e:O=p:=by
  rcases a.pt.2 with⟨r,w,h,q,e⟩|⟨h,l⟩<;>rcases b.pt.2 with⟨x,W,g,s,E⟩|⟨g,y⟩
  ·rw[e,E]
  ·rw[g] at h;cases h;cases q
  ·rw[h] at g;cases g;cases s
  ·rw[h] at g;simp only[Option.some.injEq,aj.j.injEq,List.cons.injEq,true_and,and_true] at g;exact P8 g
 subst e;refine⟨oI a.nk.2.1 b.nk.2.1 fun u=>⟨fun h=> ?_,fun h=> ?_⟩,rfl⟩
 ·obtain⟨i,j,m⟩:=a.fr u h;obtain⟨v,n,o⟩:=b.to i j;rw[m.code o];exact n
 ·obtain⟨i,j,m⟩:=b.fr u h;obtain⟨v,n,o⟩:=a.to i j;rw[m.code o];exact n
def bL (R r:List aj):Prop:=∃S,r=R++S
theorem bL.f:bL R R:=⟨[],by simp⟩
theorem bL.trans (a:bL R S) (b:bL S T):bL R T:=a.elim fun x h=>b.elim fun y c=>⟨x++y,by rw[c,h,ef]⟩
theorem bL.at (e:bL R a) {i:Nat} (h:R[i]? =ac r):a[i]? =ac r:=by
 obtain⟨S,rfl⟩:=e;rw[jF (hy.mp h).1];exact h
theorem cq.mono (e:bL R r) {i:Nat} (a:cq R i u):cq r i u:=⟨e.at a.1,a.2⟩
theorem gR.mono (e:bL R b) {t:Nat} (a:gR R t O):gR b t O:=⟨a.1,a.2.imp (fun z=>z.elim fun r Z=>Z.elim fun w c=>c.elim fun h q=>⟨r,w,e.at h,q⟩) fun z=>z.elim fun h q=>⟨e.at h,q⟩⟩
theorem bH.mono (e:bL R r) (a:bH R t k O):bH r t k O:=
 ⟨a.pt.mono e,a.sorted,a.nk,fun i h=>(a.to i h).elim fun u z=>z.elim fun b g=>⟨u,b,g.mono e⟩,fun u h=>(a.fr u h).elim fun i z=>z.elim fun b g=>⟨i,b,g.mono e⟩⟩
theorem bH.d (I:aW R) (h:cq R t u):bH R t [u] [t]:=
 ⟨⟨fun e=>h.far I (by rw[e];decide),av ⟨_,_,h.1,tm u h.2,rfl⟩⟩,by simp,⟨by simp,by simp,by simpa using h.2,by simp;rintro rfl;exact⟨by decide,by decide⟩,by simp;rintro rfl;decide⟩,fun i a=>⟨u,by simp,by rw[bW.mp a];exact h⟩,fun v b=>⟨t,by simp,by rw[bW.mp b];exact h⟩⟩
noncomputable def fY (qs:List (Nat×List Nat×List Nat)):List Nat:=dx (qs.map fun q=>(q.1,q.2.2)) []
theorem A3 (h:cq R i u):mP R i=jb u:=by
 unfold mP;rw[h.1,nW,←(tm u h.2).wh]
theorem HI (I:aW R) {G:List Nat} (n:G.Nodup) (h:∀i∈G,∃u,cq R i u):G.length≤9:=by
 classical
 have f:∀u,∃j,∀i,cq R i u→i=j:=fun u=>by
  by_cases x:∃i,cq R i u
  ·exact⟨x.choose,fun i a=>a.inj I x.choose_spec⟩
  ·exact⟨0,fun i a=>aR ⟨i,a⟩ x⟩
 let g:Nat→Nat:=fun u=>(f u).choose
 have:G.length≤((cv 9).map g).length:=n.length_le_of_subset fun i a=>by
  obtain⟨u,b⟩:=h i a;exact cr.mpr ⟨u,hB.mpr b.2,((f u).choose_spec i b).symm⟩
 simpa using this
theorem oE (h:r=R∨r=R++[x]):bL R r∧r.length≤R.length+1:=
 h.elim (fun e=>e▸⟨.f,fQ _⟩) fun e=>⟨⟨_,e⟩,e▸a9 bi⟩
theorem qa (I:aW R) (k:lK row) (a:R.length≤1000000)
  {G:Prop} (q:∀t r,aE 1 3242 [.l (an 0),.l row] (aF R::J) (ag t) [] (aF r::J)→aW r→bL R r→r.length≤R.length+1→r[t]? =ac row→G):G:=
 have⟨t,r,b,c,d,h⟩:=zn I k a
 q t r b c (oE h).1 (oE h).2 d
theorem sI {J:ar} {qs:List (Nat×List Nat×List Nat)} (I:aW R) (ζ:X=.c (qs.map fun q=>ag q.1)∨X=.j (qs.map fun q=>ag q.1)) (C:∀q∈qs,bH R q.1 q.2.1 q.2.2) (η:qs≠[])
  (θ:R.length≤1000000)
  {G:Prop} (q:∀t A O,aE 4 171 [.l (an 0),.l X] (aF R::J) (ag t) [] (aF A::J)→aW A→bL R A→A.length≤R.length+1→bH A t (cM (qs.flatMap (·.2.1))) O→G):G:=by
 have m:∀i,i∈fY qs↔∃q∈qs,i∈q.2.2:=fun i=>by
  unfold fY;rw[sn];simp only[cr,kh,or_false];constructor
  ·rintro ⟨_,⟨q,h,rfl⟩,f⟩;exact⟨q,h,f⟩
  ·rintro ⟨q,h,f⟩;exact⟨_,⟨q,h,rfl⟩,f⟩
 have n:∀i∈fY qs,∃u,cq R i u:=fun i f=>by
  exact ay ((m i).mp f) fun q h f=>ay ((C q h).to i f) fun u _ c=>⟨u,c⟩
 have d:(fY qs).Nodup:=B2 h7;have D:∀u i,cq R i u→(i∈fY qs↔u∈qs.flatMap (·.2.1)):=fun u i c=>by
  rw[m,pz];constructor
  ·rintro ⟨q,h,f⟩;refine ay ((C q h).to i f) fun v F ι=> ?_;exact bd q h (by rw[c.code ι];exact F)
  ·rintro ⟨q,h,F⟩;refine ay ((C q h).fr u F) fun j L κ=> ?_;exact bd q h (by rw[c.inj I κ];exact L)
 have T:=I.un;have s:∀u i,cq R i u→((∃j∈fY qs,(j:Int)=mP R i)↔ci (qs.flatMap (·.2.1)) u=af):=fun u i c=>by
  rw[A3 c];generalize fY qs=G at*;generalize qs.flatMap (·.2.1)=U at*;have V:∀w:Nat,(∃j∈G,(j:Int)=(w:Int))↔w∈G:=fun w=>⟨fun z=>ay z fun j L e=>dh e▸L,fun h=>bd w h rfl⟩;have μ:¬∃j∈G,(j:Int)= -1:=fun z=>ay z fun j _ e=>nomatch e;have E:=V 7;have W:=V 6;rw[(D 6 7 T.2.2.2.1)] at E;rw[(D 7 6 T.2.2.1)] at W;rcases((DX u).imp_right fun h=>(RW h).imp cB fun h=>(RW h).imp cB id:u=0∨u=1∨u=2∨3≤u) with rfl|rfl|rfl|g
  ·rw[show jb 0=((7:Nat):Int) from rfl,E];simp[ci]
  ·rw[show jb 1=((7:Nat):Int) from rfl,E];simp[ci]
  ·rw[show jb 2=((6:Nat):Int) from rfl,W];simp[ci]
  ·have ν:jb u= -1:=by match u,g with|_+3,_=>rfl
   have ξ:u≠0:=lP (bl g rfl);have x:u≠1:=lP (bl g rfl);have l:u≠2:=lP g;refine ak ν ?_;constructor
   ·intro h;exact aR h μ
   ·intro h;simp[ci,ξ,x,l] at h
 have Z:∀i,i∈fC R (fY qs)↔i∈fY qs∧∃u,cq R i u∧ci (qs.flatMap (·.2.1)) u=false:=fun i=>by
  unfold fC;rw[c_,(mC _).mem_iff];constructor
  ·rintro ⟨x,l⟩;obtain⟨u,c⟩:=n i x;simp only[x6,decide_eq_false_iff_not,s u i c] at l;exact⟨x,u,c,by simpa using l⟩
  ·rintro ⟨x,u,c,l⟩;refine⟨x, ?_⟩;simp only[x6,decide_eq_false_iff_not,s u i c,l];simp
 have α:gi (cM (qs.flatMap (·.2.1))):=by
  induction β:qs using cn with
  |nil=>exact aR β η
  |cons q r=>
   have:=(C q (by rw[β];simp)).nk;refine iN this fun x _ g _=> ?_;induction k:q.2.1 using cn with
   |nil=>exact aR k x
   |cons u _=>exact lr (bd u (by simp[k]) (g u (by rw[k];simp)))
 have o:∀i∈fC R (fY qs),∃u∈cM (qs.flatMap (·.2.1)),cq R i u:=fun i f=>by
  obtain⟨x,u,c,l⟩:=(Z i).mp f;exact bd u (fp.mpr ⟨c.2,(D u i c).mp x,l⟩) c
 have γ:∀u∈cM (qs.flatMap (·.2.1)),∃i∈fC R (fY qs),cq R i u:=fun u c=>by
  exact dM (fp.mp c) fun x l g=>ay (pz.mp l) fun q ο π=>ay ((C q ο).fr u π) fun i _ M=>bd i ((Z i).mpr ⟨(D u i M).mpr l,u,M,g⟩) M
 have ρ:fC R (fY qs)≠[]:=fun e=>by
  induction δ:cM (qs.flatMap (·.2.1)) using cn with
  |nil=>exact α.1 δ
  |cons u _=>
   refine ay (γ u (by refine ak δ ?_;simp)) fun i f _=> ?_;have f:=e▸f;cases f
 have σ:(fC R (fY qs)).Pairwise (·<·):=by
  have x:(kv (fY qs)).Pairwise (·<·):=by
   have l:=Op (fY qs);have g:=(mC _).nodup_iff.mpr d;exact(l.and g).imp fun z=>z.elim fun a b=>uz (Nat.lt_or_gt_of_ne z.2) (fun y=>cD (.c 1 (.a .b .n1) .f (.g 1 (.a .b .n1) .f)) rfl y) fun y=>cD (.c 2 .b .f (.c 1 (.a .f .n1) .b (.g 1 (.a .b .n1) .f))) rfl z.1 y
  exact x.sublist mX
 have P:∀p∈qs.map fun q=>(q.1,q.2.2),gR R p.1 p.2:=fun p N=>by
  refine ay (cr.mp N) fun q h Q=> ?_;subst Q;exact(C q h).pt
 have τ:∀p∈qs.map fun q=>(q.1,q.2.2),∀i∈p.2,s4 R i:=fun p N i f=>by
  refine ay (cr.mp N) fun q h Q=> ?_;subst Q;refine ay ((C q h).to i f) fun u _ c=> ?_;exact c.ok I
 refine ia (C1 (R:=R) (J:=J) (H:=qs.map fun(q:Nat×List Nat×List Nat)=>(q.1,q.2.2)) (X:=X) I (by refine ak eg ?_;exact ζ) P τ (show(fY qs).length<64 by exact dN (.c 1 .b (.n 9) (.g 1 (.a .b .n1) (.n 64))) rfl (HI I d n)) ρ θ) fun t A x ε l g=> ?_;change _∨A=R++[.j [ae 6,.j ((fC R (fY qs)).map ag)]] at l;change(fC R (fY qs)=[t]∧_)∨(2≤(fC R (fY qs)).length∧A[t]? =ac (.j [ae 6,.j ((fC R (fY qs)).map ag)])) at g;have S:=(oE l).1;refine q t A (fC R (fY qs)) x ε S (oE l).2 (⟨?_,σ,α,fun i f=>ay (o i f) fun u a b=>⟨u,a,b.mono S⟩,fun u c=>ay (γ u c) fun i a b=>⟨i,a,b.mono S⟩⟩);rcases g with⟨g,B⟩|⟨g,B⟩
 ·refine ay (o t (by refine ak g ?_;simp)) fun u _ c=> ?_;refine ak g ?_;refine ak B ?_;exact(bH.d I c).pt
 ·refine⟨fun e=> ?_,aI ⟨B,g⟩⟩;have B:=e▸B;have B:=ε.at (eM [] (.g 1 (.a .n2 .n1) (.n 16)) rfl)▸B;cases B
noncomputable def bc (p:Nat×Nat):aj:=.j [ag p.1,ag p.2]
noncomputable def cF (l:List (Nat×Nat)):List (aj×aj):=l.map fun p=>(bc p,ae 1)
noncomputable def e3 (l:List ((Nat×Nat)×Bool)):List (aj×aj):=l.map fun p=>(bc p.1,aA p.2)
noncomputable def bF:o':=⟨232,[(18,.l (an 0)),(20,.l (ae 0)),(52,.l (ae 200)),(53,.l (ae 40)),(54,.l a4)]⟩
noncomputable def AL (r:ic) (A tr:List (Nat×Nat)) (K:List ((Nat×Nat)×Bool)) (dp lk m n:Nat) (t:Bool) (T:aj):o':=
 ⟨198,[(11,.l (an 1)),(13,.l (ag m)),(1,r),(16,b1 (.e (cF A))),(21,b1 (.e (e3 K))),(15,b1 (.c (tr.map bc))),(48,b1 (.c [])),(20,.l (ag dp)),(19,.l (ag lk)),(14,.l (an n)),(10,.l (aA t)),(12,.l T),(49,.l (bP "")),(50,.l (ae 0))]⟩
noncomputable def mO (r:ic) (tr:List (Nat×Nat)) (K:List ((Nat×Nat)×Bool)) (dp lk m n:Nat) (t:Bool) (T:aj):o':=AL r tr tr K dp lk m n t T
noncomputable def es (N:Nat):o':=⟨109,[(0,b1 (.c (cx N (.j [ae 3,ae 0]))))]⟩
noncomputable def qh:List (aj×aj):=[(ae 4,an 4),(ae 12,an 5),(ae 13,an 6)]
structure bh where
 tr:List (Nat×Nat)
 K:List ((Nat×Nat)×Bool)
 dp:Nat
 a:Nat
 N:Nat
 tel:Bool
 tw:Option (List (Nat×Nat)×Nat)
noncomputable def AC:Option (List (Nat×Nat)×Nat)→aj
 |none=>a4
 |some _=>an 7
noncomputable def ve:Option (List (Nat×Nat)×Nat)→ar
 |none=>[]
 |some (F,l)=>[mO (.l (da 2 1)) [] (F.map fun p=>(p,ai)) 0 l 3 8 ai a4,es 0]
noncomputable def bh.rest (m:bh):ar:=bF::mO (b1 (.e qh)) m.tr m.K m.dp m.a 1 3 m.tel (AC m.tw)::es m.N::⟨273,[]⟩::⟨257,[]⟩::⟨252,[]⟩::ve m.tw
noncomputable def bh.stY (m:bh) (A:List (Nat×Nat)) (R:List aj):ar:=aF R::bF::AL (b1 (.e qh)) A m.tr m.K m.dp m.a 1 3 m.tel (AC m.tw)::es m.N::⟨273,[]⟩::⟨257,[]⟩::⟨252,[]⟩::ve m.tw
noncomputable def bh.st (m:bh) (R:List aj):ar:=aF R::m.rest
theorem I2:cx N x++[x]=cx (N+1) x:=by rw[List.replicate_succ']
theorem HC (h:bc p=bc q):p=q:=by
 unfold bc at h;simp only[aj.j.injEq,rj,aj.int.injEq,and_true] at h;obtain⟨a,b⟩:=p;obtain⟨c,d⟩:=q;simp only[Ed];exact⟨dh h.1,dh h.2⟩
theorem Dc (p:Nat×Nat):aj.key 8 (bc p)=true:=rfl
theorem mm:aj.beq (bc p) (bc q)=aM (p=q):=by
 by_cases h:p=q
 ·subst h;rw[cu rfl,(lz _ _ 8 (Dc p)).mpr rfl]
 ·rw[cP h];induction e:aj.beq (bc p) (bc q) with
  |false=>rfl
  |true=>exact aR (HC ((lz _ _ 8 (Dc p)).mp e)) h
theorem uV:∀{l:List (Nat×Nat)},dA (bc p) (cF l)=aM (p∈l):=by
 intro l;induction l with
 |nil=>
  exact(cP kh).symm
 |cons q l i=>
  show(aj.beq (bc q) (bc p)||dA (bc p) (cF l))=_;rw[i,mm];by_cases h:p=q
  ·subst h;simp
  ·have a:¬q=p:=fun e=>h e.symm;simp[h,a]
theorem sy:cT (bc p) (cF l)=true:=by unfold cT;induction l<;>rfl
theorem tR:cT (bc p) (e3 l)=true:=by unfold cT;induction l<;>rfl
theorem BD:∀{l:List ((Nat×Nat)×Bool)},dA (bc p) (e3 l)=(l.lookup p).isSome:=by
 intro l;induction l with
 |nil=>rfl
 |cons x l i=>
  obtain⟨q,b⟩:=x;show(aj.beq (bc q) (bc p)||dA (bc p) (e3 l))=_;rw[i,mm,fP];by_cases h:p=q
  ·subst h;simp
  ·have a:¬q=p:=fun e=>h e.symm;simp[a,c5.mpr h]
theorem C':∀{l:List ((Nat×Nat)×Bool)},f1 (bc p) (e3 l)=(l.lookup p).map aA:=by
 intro l;induction l with
 |nil=>rfl
 |cons x l i=>
  obtain⟨q,b⟩:=x;show(if aj.beq (bc q) (bc p)=af then ac (aA b) else f1 (bc p) (e3 l))=_
  rw[i,mm,fP];by_cases h:p=q
  ·subst h;simp
  ·have a:¬q=p:=fun e=>h e.symm;simp[a,c5.mpr h]
theorem w':cX (bc p) (.e (cF l))=ac (aM (p∈l)):=by
 show(if cT _ _ then ac (dA _ _) else ah)=_;rw[aJ sy,uV]
theorem qp:cX (bc p) (.e (e3 l))=ac (l.lookup p).isSome:=by
 show(if cT _ _ then ac (dA _ _) else ah)=_;rw[aJ tR,BD]
theorem w2 (h:p∉l) (a:l.length≤1000000):gW (.e (cF l)) (bc p) (ae 1)=ac (.e (cF (l++[p]))):=by
 show(if cT _ _∧(cF l).length≤b4 then ac (b0.e (gd _ _ _)) else ah)=_
 rw[aJ ⟨sy,by unfold cF;rw[aB];exact a⟩,rV (by rw[uV,cP h])];unfold cF;simp
theorem u6 (h:l.lookup p=ah) (a:l.length≤1000000):gW (.e (e3 l)) (bc p) (aA b)=ac (.e (e3 (l++[(p,b)]))):=by
 show(if cT _ _∧(e3 l).length≤b4 then ac (b0.e (gd _ _ _)) else ah)=_
 rw[aJ ⟨tR,by unfold e3;rw[aB];exact a⟩,rV (by rw[BD,h];rfl)];unfold e3;simp
theorem LQ:∀{l:List (Nat×Nat)},p∉l→hT (bc p) (cF (l++[p]))=cF l:=by
 intro l;induction l with
 |nil=>
  intro _;show(if aj.beq (bc p) (bc p)=af then[] else _)=_;refine ak mm (ak (cu rfl) ?_);rfl
 |cons q l i=>
  intro h;show(if aj.beq (bc q) (bc p)=af then _ else(bc q,ae 1)::hT (bc p) (cF (l++[p])))=_
  refine ak mm (ak (cP (fun e:q=p=>h (e▸kZ))) (ak (i fun m=>h (je _ m)) ?_));rfl
theorem zv:hT (bc p) (cF (p::l))=cF l:=by show(if aj.beq (bc p) (bc p)=af then cF l else _)=_;refine ak mm (ak (cu rfl) ?_);rfl
theorem v' (h:p∈l):(cT (bc p) (cF l)&&dA (bc p) (cF l))=true:=by rw[sy,uV,cu h];rfl
theorem M6 (l:List a):l=[]∨∃i x,l=i++[x]:=by
 rcases List.eq_nil_or_concat l with h|⟨i,x,h⟩
 ·exact .inl h
 ·exact .inr ⟨i,x,by rw[h,List.concat_eq_append]⟩
theorem A0 {m:bh}:aE 1 207 [.l (an 2)] (m.st R) (aA m.tel) [] (m.st R):=zo.of _ _ fun n h=>by
 obtain⟨T,k,d,l,N,t,w⟩:=m;induction t<;>exact aw 0 []
theorem PS {m:bh} (h:m.N≤1000000):aE 1 1361 [.l (an 3),.l (ae 3),.l (ae 0)] (m.st R) (a4) [] ({m with N:=m.N+1}.st R):=zo.of _ _ fun n b=>by
 have a:fJ 3 (.c (cx m.N (.j [ae 3,ae 0]))) [.j [ae 3,ae 0]]=ac (a4,.c (cx (m.N+1) (.j [ae 3,ae 0]))):=by
  show(if(cx m.N _).length≤b4 then _ else _)=_
  rw[kX,aJ (show m.N≤b4 from h),I2]
 exact aw 0 [.u a]
theorem rW {m:bh} (h:m.N≤1000000):aE 2 4922 [.l (an 2),.l (ae 3)] (m.st R) (a4) [] ({m with N:=if m.tel then m.N+1 else m.N}.st R):=zo.of _ _ fun n a=>by
 obtain⟨T,k,d,l,b,t,w⟩:=m;induction t
 ·exact aw 0 []
 ·exact aw 1 [.call (PS (R:=R) h n a)]
theorem u_ {m:bh} (h:m.N≤1000000) (t:m.tr.length≤1000000):aE 1 4924 [.l (an 2)] (m.st R) (.j [ag m.N,ag m.tr.length]) [] (m.st R):=zo.of _ _ fun n a=>by
 exact aw 0 [.p (ds:=cx m.N (aj.j [ae 3,ae 0])) kX (aD h rfl),.p (ds:=m.tr.map bc) (aB _) (aD t rfl)]
theorem A8 {m:bh} (k:m.tr.Nodup) (o:a≤m.N) (p:b≤m.tr.length) (t:m.tr.length<100000):
  aE 1 202 [.l (an 2),.l (.j [ag a,ag b])] (m.st R) (a4) [] ({m with N:=a,tr:=m.tr.take b}.st R):=zo.of _ _ fun n z=>by
 have E:(rH (ag a) (cx m.N (aj.j [ae 3,ae 0]))).e=ac (a4,.c (cx a (aj.j [ae 3,ae 0]))):=by
  show(if(0:Int)≤(a:Int) then ac (a4,b0.c ((cx m.N (aj.j [ae 3,ae 0])).take (a:Int).toNat)) else ah)=_
  rw[aJ (gG a),py,List.take_replicate,ua o]
 obtain⟨_,_,_,⟨rfl,rfl,rfl⟩,w⟩:=wl (n:=n) (g:=202) [1] (fun _=>[(27,.l (an 2)),(33,.l (.j [ag a,ag b]))]) (fun l=>{m with N:=a,tr:=l}.st R) (fun l=>b≤l.length∧∃r,m.tr=l++r) gK
  (fun f L s=>f=a'∧L=[(27,.l (an 2)),(33,.l (.j [ag a,ag b]))]∧s={m with N:=a,tr:=m.tr.take b}.st R) m.tr ⟨p,[],by simp⟩ t rfl fun l h=>by
   obtain⟨q,r,e⟩:=h;have j:l.length≤16777216:=ao (by rw[e,bi];exact bu _ _) (aD (gJ t) rfl);by_cases c:b<l.length
   ·rcases M6 l with rfl|⟨i,x,rfl⟩
    ·exact absurd c (Nat.not_lt_zero _)
    have u:fJ 2 (.c ((i++[x]).map bc)) []=some (bc x,.c (i.map bc)):=by
     rw[List.map_append];show(match(i.map bc++[bc x]).getLast? with|some d=>ac (d,b0.c (i.map bc++[bc x]).dropLast)|none=>ah)=_
     refine ak (Rw) (ak Rz ?_);rfl
    have v:(ov (bc x) (cF (i++[x]))).e=ac (a4,.e (cF i)):=by
     show(if(cT (bc x) (cF (i++[x]))&&dA (bc x) (cF (i++[x])))=af then ac (a4,b0.e (hT (bc x) (cF (i++[x])))) else ah)=_
     refine ak (v' (by simp)) (ak (LQ (fun y=>(ke.mp (ke.mp (e▸k)).1).2.2 x y x (by simp) rfl)) ?_);rfl
    refine av (hK i a' (⟨iW (by rw[bi] at c;exact c),[x]++r,by rw[e,ef]⟩) (by simp) (av rfl) (?_));exact bq 16 [.p (ds:=(i++[x]).map bc) (aB _) j,.ab c,.u u,.I v]
   ·refine aI (r2 .o _ _ rfl (?_) rfl rfl rfl);rw[show m.tr.take b=l by rw[e,show b=l.length from e8 q (dC c),ub]];exact bq 16 [.p (ds:=l.map bc) (aB _) j,.V c]
 exact aw 1 [.I E,.sub w]
theorem Iy {m:bh} (h:m.tr.Nodup) (c:a≤m.N) (d:b≤m.tr.length) (t:m.tr.length<100000):
  aE 2 4925 [.l (an 2),.l (.j [ag a,ag b])] (m.st R) (a4) [] ({m with N:=a,tr:=m.tr.take b}.st R):=zo.of _ _ fun n e=>by
 exact aw 0 [.call (A8 (R:=R) h c d t n e)]
inductive ig:aj→Prop
 |a {row:aj} {w:Int} (h:jD row w):ig row
 |un (p:aj):ig (.j [.int 6,p])
 |c (p q:aj):ig (.j [.int 11,p,q])
 |j (p q:aj):ig (.j [.int 12,p,q])
noncomputable def s5:aj→Bool
 |.j (.int 2::_)=>af
 |.j (.int 3::_)=>af
 |.j (.int 4::_)=>af
 |_=>ai
theorem IV (u:Nat) (h:u<9):s5 (ii u)=aM (u<5):=p_ (P:=fun u=>s5 (ii u)=aM (u<5)) (by decide) u h
structure gj (t:Nat):Prop where
 n0:¬(t:Int)=0
 n1:¬(t:Int)=1
 n2:¬(t:Int)=2
 n3:¬(t:Int)=3
 b:¬(t:Int)=10
 a:¬(t:Int)=13
theorem zx (h:R[t]? =ac row) (k:ig row):
  aE 1 173 [.l (an 0),.l (ag t)] (aF R::J) (aA (s5 row)) [] (aF R::J):=zo.of _ _ fun n d=>by
 replace h:=dH h;induction k with
 |a b=>induction b<;>exact aw 0 [.get h]
 |un p=>exact aw 0 [.get h]
 |c p q=>exact aw 0 [.get h]
 |j p q=>exact aw 0 [.get h]
theorem If (h:R[t]? =ac row) (k:ig row):
  aE 1 175 [.l (an 0),.l (ag t)] (aF R::J) (aA ai) [] (aF R::J):=zo.of _ _ fun n d=>by
 replace h:=dH h;induction k with
 |a b=>induction b<;>exact aw 0 [.get h]
 |un p=>exact aw 0 [.get h]
 |c p q=>exact aw 0 [.get h]
 |j p q=>exact aw 0 [.get h]
theorem HD (h:R[t]? =ac row) (k:ig row):
  aE 2 176 [.l (an 0),.l (ag t)] (aF R::J) (ag t) [] (aF R::J):=zo.of _ _ fun n a=>by
 have b:=If (J:=J) h k n a;exact aw 0 [.call b]
theorem kJ:aE 1 6281 [.l (an 1),.l (ag t)] Y (ag t) [] Y:=zo.of _ _ fun n h=>by
 exact aw 0 []
theorem H4:aE 1 6285 [.l (an 1),.l (ag t)] Y (ag t) [] Y:=zo.of _ _ fun n h=>by
 exact aw 0 []
theorem l5 (h:R[t]? =ac row) (k:ig row):
  aE 3 203 [.l (an 1),.l (ag t)] (aF R::bF::J) (ag t) [] (aF R::bF::J):=zo.of _ _ fun n a=>by
 have d:=kJ (t:=t) (Y:=aF R::bF::J) n (bl a rfl);have c:=zx (J:=bF::J) h k n (bl a rfl);generalize s5 row=b at c;have e:=HD (J:=bF::J) h k n a;induction b;exact aw 0 [.call d,.call c];exact aw 256 [.call d,.call c,.call e]
theorem sU {m:bh} (h:gj s) (c:gj t):aE 1 210 [.l (an 2),.l (ag s),.l (ag t)] (m.st R) (ae (-1)) [] (m.st R):=zo.of _ _ fun n i=>by
 obtain⟨a,A,d,j,k,e⟩:=h;obtain⟨b,B,f,l,o,g⟩:=c;exact aw 0 [.C b,.C g,.C d,.C e,.C a,.C B,.C a,.C A,.C f]
theorem eK:eA (.j (a::x)) (ae 0)=ac a:=dH (R:=a::x) (t:=0) rfl
theorem xP {m:bh} (k:gj s) (l:gj t) (h:R[s]? =ac (.j (ae a::x))) (c:R[t]? =ac (.j (ae b::y)))
  (o:(a=6∧(b=1∨b=2∨b=3∨b=4∨b=6))∨((a=1∨a=2∨a=3∨a=4∨a=11∨a=12)∧b=6)):
  aE 2 209 [.l (an 2),.l (ag s),.l (ag t)] (m.st R) (ae (-1)) [] (m.st R):=zo.of _ _ fun n p=>by
 have j:=sU (m:=m) (R:=R) k l n p;replace h:=dH h;replace c:=dH c;have g:=eK (a:=ae a) (x:=x);have G:=eK (a:=ae b) (x:=y)
 have d:∀a:Int,(a=6→cX (ae a) (.j [ae 6,ae 7,ae 10,ae 14,ae 15,ae 16,ae 17,ae 18,ae 19])=ac af)∧((a=1∨a=2∨a=3∨a=4∨a=11∨a=12)→cX (ae a) (.j [ae 6,ae 7,ae 10,ae 14,ae 15,ae 16,ae 17,ae 18,ae 19])=ac ai):=
  fun a=>⟨fun e=>by subst e;rfl,fun e=>by rcases e with e|e|e|e|e|e<;>(subst e;rfl)⟩
 rcases o with⟨f,_⟩|⟨f,q⟩
 ·have i:=(d a).1 f;exact aw 16 [.call j,.get h,.get g,.get c,.get G,.has i]
 ·have i:=(d a).2 f;have I:=(d b).1 q;exact aw 16 [.call j,.get h,.get g,.get c,.get G,.has i,.has I]
theorem Fn (h:¬b=5):aE 1 212 [.l (.j (ae b::y))] Y (aA ai) [] Y:=zo.of _ _ fun n c=>by
 have g:=eK (a:=ae b) (x:=y);exact aw 0 [.get g,.C h]
theorem Hf {m:bh} (h:¬b=5):aE 2 214 [.l (an 2),.l s,.l a,.l (.j (ae b::y))] (m.st R) (ae 0) [] (m.st R):=zo.of _ _ fun n c=>by
 have g:=Fn (Y:=m.st R) (y:=y) h n c;exact aw 1 [.call g]
theorem Me {m:bh} (j:gj t) (d:R[s]? =ac (.j (ae a::x))) (k:jD (.j (ae a::x)) w) (f:R[t]? =ac (.j (ae b::y))) (l:¬a=5) (p:¬b=5) (q:s=4→w= -1):
  aE 3 213 [.l (an 2),.l (ag s),.l (ag t)] (m.st R) (ae (if w=(t:Int) then 1 else 0)) [] (m.st R):=zo.of _ _ fun n o=>by
 have g:=yS (Y:=m.st R) k n (bl o rfl);have r:=Hf (m:=m) (R:=R) (s:=ag s) (a:=.j (ae a::x)) (y:=y) p n o;replace d:=dH d;replace f:=dH f;have G:=eK (a:=ae a) (x:=x);have C:=j.n3;clear k j;by_cases i:(s:Int)=4
 ·have:w= -1:=q (dh i);subst this;have c:¬(-1:Int)=(t:Int):=fun e=>(by injection e);rw[aL c];exact aw 0 [.eq i,.C C]
 ·by_cases h:w=(t:Int)
  ·rw[aJ h];have c:(0:Int)≤w:=h▸gG t;exact aw 0 [.C i,.get d,.get f,.call g,.eq h,.call g,.N c]
  ·rw[aL h];exact aw 1048576 [.C i,.get d,.get f,.call g,.C h,.get G,.C l,.get G,.C l,.call r]
theorem MY {m:bh} (p:gj s) (f:gj t) (h:R[s]? =ac (.j (ae a::x))) (q:jD (.j (ae a::x)) w) (d:R[t]? =ac (.j (ae b::y)))
  (j:a=1∨a=2∨a=3∨a=4) (k:b=1∨b=2∨b=3∨b=4) (r:s=4→w= -1):
  aE 4 209 [.l (an 2),.l (ag s),.l (ag t)] (m.st R) (ae (if w=(t:Int) then 1 else 0)) [] (m.st R):=zo.of _ _ fun n l=>by
 have u:=sU (m:=m) (R:=R) p f n (bl l rfl);have v:=Me (m:=m) f h q d (qQ j rfl) (qQ k rfl) r n l;replace h:=dH h;replace d:=dH d;have g:=eK (a:=ae a) (x:=x);have G:=eK (a:=ae b) (x:=y);have c:=f.b
 have o:∀a:Int,(a=1∨a=2∨a=3∨a=4)→cX (ae a) (.j [ae 6,ae 7,ae 10,ae 14,ae 15,ae 16,ae 17,ae 18,ae 19])=ac ai∧cX (ae a) (.j [ae 1,ae 2,ae 3,ae 4,ae 5])=ac true:=
  fun a e=>by rcases e with e|e|e|e<;>(subst e;exact⟨rfl,rfl⟩)
 obtain⟨i,I⟩:=o a j;obtain⟨z,A⟩:=o b k;exact aw 16 [.call u,.get h,.get g,.get d,.get G,.has i,.has z,.C c,.has A,.has I,.call v]
theorem MX {m:bh} (j:gj s) (f:gj t) (h:R[s]? =ac (.j (ae a::x))) (d:R[t]? =ac (.j (ae b::y)))
  (k:a=11∨a=12) (l:b=1∨b=2∨b=3∨b=4):
  aE 2 209 [.l (an 2),.l (ag s),.l (ag t)] (m.st R) (ae 0) [] (m.st R):=zo.of _ _ fun n o=>by
 have p:=sU (m:=m) (R:=R) j f n (bl o rfl);replace h:=dH h;replace d:=dH d;have g:=eK (a:=ae a) (x:=x);have G:=eK (a:=ae b) (x:=y);have c:=f.b;have i:cX (ae a) (.j [ae 6,ae 7,ae 10,ae 14,ae 15,ae 16,ae 17,ae 18,ae 19])=ac ai∧cX (ae a) (.j [ae 1,ae 2,ae 3,ae 4,ae 5])=ac false:=by
  rcases k with e|e<;>(subst e;exact⟨rfl,rfl⟩)
 have I:cX (.int b) (.j [.int 6,.int 7,.int 10,.int 14,.int 15,.int 16,.int 17,.int 18,.int 19])=some false∧cX (.int b) (.j [.int 1,.int 2,.int 3,.int 4,.int 5])=some true:=by
  rcases l with e|e|e|e<;>(subst e;exact⟨rfl,rfl⟩)
 obtain⟨i,q⟩:=i;obtain⟨I,r⟩:=I;exact aw 16 [.call p,.get h,.get g,.get d,.get G,.has i,.has I,.C c,.has r,.has q]
theorem Nm {m:bh} (f:gj s) (j:gj t) (l:¬(s:Int)=4) (o:¬(s:Int)=5) (h:R[s]? =ac (.j (ae a::x))) (d:R[t]? =ac (.j (ae b::y)))
  (p:a=11∨a=12) (q:b=11∨b=12):
  aE 2 209 [.l (an 2),.l (ag s),.l (ag t)] (m.st R) (ae (-1)) [] (m.st R):=zo.of _ _ fun n r=>by
 have u:=sU (m:=m) (R:=R) f j n (bl r rfl);replace h:=dH h;replace d:=dH d;have g:=eK (a:=ae a) (x:=x);have G:=eK (a:=ae b) (x:=y);have c:=j.b;have C:=f.n3
 have k:∀a:Int,(a=11∨a=12)→cX (ae a) (.j [ae 6,ae 7,ae 10,ae 14,ae 15,ae 16,ae 17,ae 18,ae 19])=ac ai∧cX (ae a) (.j [ae 1,ae 2,ae 3,ae 4,ae 5])=ac false:=
  fun a e=>by rcases e with e|e<;>(subst e;exact⟨rfl,rfl⟩)
 obtain⟨i,w⟩:=k a p;obtain⟨I,v⟩:=k b q;exact aw 16 [.call u,.get h,.get g,.get d,.get G,.has i,.has I,.C c,.has v,.C l,.C o,.C C]
theorem xL {m:bh}:aE 1 204 [.l (an 2),.l (ag s),.l (ag s)] (m.st R) (aA af) [] (m.st R):=zo.of _ _ fun n h=>by
 have c:(s:Int)=s:=rfl;exact aw 0 [.eq c]
theorem Bt {m:bh} {s t:Nat} (b:¬(s:Int)=t) (c:R[s]? =ac r) (d:ig r) (e:R[t]? =ac f) (i:ig f) (j:k=0∨k=1)
  (h:aE 4 209 [.l (an 2),.l (ag s),.l (ag t)] (m.st R) (ae k) [] (m.st R)):
  aE 5 204 [.l (an 2),.l (ag s),.l (ag t)] (m.st R) (aA (aM (k=1))) [] (m.st R):=zo.of _ _ fun n a=>by
 have h:=h n a;have g:aZ n 203 [.l (an 1),.l (ag s)] (m.st R) (ag s) [] (m.st R):=l5 c d n (bl a rfl);have G:aZ n 203 [.l (an 1),.l (ag t)] (m.st R) (ag t) [] (m.st R):=l5 e i n (bl a rfl);rcases j with rfl|rfl<;>exact aw 65536 [.C b,.call g,.call G,.C b,.call h]
theorem v1 {m:bh} {s t:Nat} (c:¬(s:Int)=t) (e:R[s]? =ac r) (f:ig r) (i:R[t]? =ac j) (l:ig j)
  (a:aE 3 209 [.l (an 2),.l (ag s),.l (ag t)] (m.st R) (ae (-1)) [] (m.st R))
  (q:aE k 205 [.l (an 2),.l (ag s),.l (ag t)] (m.st R) d [] st') (b:3≤k):aE (k+1) 204 [.l (an 2),.l (ag s),.l (ag t)] (m.st R) d [] st':=zo.of _ _ fun n h=>by
 have a:=a n (ao b h);have q:=q n h;have g:aZ n 203 [.l (an 1),.l (ag s)] (m.st R) (ag s) [] (m.st R):=l5 e f n (ao b h);have G:aZ n 203 [.l (an 1),.l (ag t)] (m.st R) (ag t) [] (m.st R):=l5 i l n (ao b h);exact aw 4259840 [.C c,.call g,.call G,.C c,.call a,.call q]
theorem Jp:∀(l:List (Nat×Nat)),hJ (l.map bc) (l.map bc)=true:=by
 intro l;induction l with
 |nil=>rfl
 |cons p l i=>
  refine(?_:(aj.beq (bc p) (bc p)&&hJ (l.map bc) (l.map bc))=af);rw[i,mm];simp
theorem B' {r:List ((Nat×Nat)×Bool)} (h:l.lookup p=ah) (a:r.lookup p=ah):(l++r).lookup p=none:=by
 induction l with
 |nil=>exact a
 |cons q l i=>
  obtain⟨k,v⟩:=q;rw[fP] at h;rw[List.cons_append,fP];induction b:p==k with
  |true=>rw[b] at h;injection h
  |false=>rw[b] at h;exact i h
theorem Lo:∀{l:List (Nat×Nat)},p∉l→(l.map fun q=>(q,b)).lookup p=none:=by
 intro l;induction l with
 |nil=>
  intro _;rfl
 |cons q l i=>
  exact fun h=>ak eE (ak fP (ak (c5.mpr (fun e:p=q=>h (e▸kZ))) (i fun m=>h (je _ m))))
theorem Kt {m:bh} {c:Bool} (a:m.tr.Nodup) (k:∀p∈m.tr,m.K.lookup p=ah) (i:m.tr.length≤100000) (j:m.K.length≤100000):
  aE 1 206 [.l (an 2),.l (aA c)] (m.st R) (a4) [] ({m with tr:=[],K:=m.K++if c then m.tr.map (fun p=>(p,af)) else[]}.st R):=zo.of _ _ fun n v=>by
 obtain⟨x,o,l⟩:=hm (n:=n) (g:=206) (b:=ac (2,15)) [0] bc m.tr (fun _ _=>[(27,.l (an 2)),(38,.l (aA c))]) (fun d x=>{m with K:=m.K++if c then d.map (fun p=>(p,af)) else[]}.stY x R) (fun d x=>m.tr=d++x) m.tr rfl rfl fun d p r x e h=>by
  obtain rfl:x=p::r:=Dx (h.symm.trans e);have f:(ov (bc p) (cF (p::r))).e=ac (a4,.e (cF r)):=by
   refine((ak (v' (by simp)) (ak zv ?_)):(if(cT (bc p) (cF (p::r))&&dA (bc p) (cF (p::r)))=af then ac (a4,b0.e (hT (bc p) (cF (p::r)))) else ah)=_);rfl
  refine hK r a' (by refine ak e ?_;simp) (av rfl) (?_) (Jp _);induction c with
  |true=>
   have q:(m.K++d.map fun p=>(p,af)).lookup p=none:=B' (k p (eO e)) (Lo (by
    rw[e] at a;exact fun s=>(ke.mp a).2.2 p s p (by simp) rfl))
   have t:=u6 (b:=af) q (by
    have:=aS gK e;simp at this⊢;exact b8 (.c 1 .b (.n 100000) (.c 1 .f (.n 100000) (.c 1 (.a .g (.a .j .n1)) .b (.g 1 (.a .f .g) (.n 1000000))))) rfl i j (a9 (cB this)))
   have E:m.K++(d++[p]).map (fun p=>(p,af))=m.K++d.map (fun p=>(p,af))++[(p,af)]:=by simp
   refine(?_:ff _ _ _ _ _ _ _ _ _ ({m with K:=m.K++(d++[p]).map (fun p=>(p,af))}.stY r R));refine ak E ?_;exact bq 16 [.I f,.set t]
  |false=>exact bq 0 [.I f]
 obtain rfl:x=[]:=Dx (o.symm.trans (c8 _).symm);have u:(m.K++if c then([]:List (Nat×Nat)).map (fun p=>(p,af)) else[])=m.K:=by induction c<;>simp
 simp only[u] at l;exact aw 0 [.sub l]
noncomputable def bh.into (m:bh) (p:Nat×Nat):bh:={m with a:=m.a+1,tr:=m.tr++[p],dp:=m.dp+1}
noncomputable def bh.outF (m M:bh) (p:Nat×Nat):bh:={M with dp:=m.dp,N:=m.N,tr:=m.tr,K:=M.K++[(p,ai)]}
noncomputable def bh.outT (m M:bh):bh:=if m.tr=[] then{M with dp:=m.dp,tr:=[],K:=if M.N=m.N then M.K++M.tr.map (fun p=>(p,af)) else M.K} else{M with dp:=m.dp}
structure s_ (m:bh):Prop where
 tr:m.tr.length≤50000
 K:m.K.length≤50000
 N:m.N≤1000000
theorem Bj {m:bh} (h:m.K.lookup (s,t)=ac b):aE 1 205 [.l (an 2),.l (ag s),.l (ag t)] (m.st R) (aA b) [] (m.st R):=zo.of _ _ fun n d=>by
 have a:cX (.j [ag s,ag t]) (.e (e3 m.K))=ac true:=by have:=qp (p:=(s,t)) (l:=m.K);rw[h] at this;exact this
 have c:eA (.e (e3 m.K)) (.j [ag s,ag t])=ac (aA b):=by
  show(if cT (bc (s,t)) (e3 m.K) then f1 (bc (s,t)) (e3 m.K) else ah)=_
  rw[aJ tR,C',h];rfl
 exact aw 0 [.has a,.get c]
theorem y2 {m:bh} (h:m.K.lookup (s,t)=ah) (a:(s,t)∈m.tr):aE 1 205 [.l (an 2),.l (ag s),.l (ag t)] (m.st R) (aA af) [] (m.st R):=zo.of _ _ fun n d=>by
 have b:cX (.j [ag s,ag t]) (.e (e3 m.K))=ac false:=by have:=qp (p:=(s,t)) (l:=m.K);rw[h] at this;exact this
 have c:cX (.j [ag s,ag t]) (.e (cF m.tr))=ac true:=by have:=w' (p:=(s,t)) (l:=m.tr);exact cu a▸this
 exact aw 0 [.has b,.has c]
theorem L_ (L:m.K.lookup (s,t)=ah) (A:(s,t)∉m.tr) (P:m.a<20000) (Q:m.dp<60) (B:s_ m) (S:s_ M)
  (h:aE k 215 [.l (an 2),.l (ag s),.l (ag t)] ((m.into (s,t)).st R) (aA b) [] (M.st r)) (T:2≤k) (U:M.dp=m.dp+1) (V:∃X,M.tr=m.tr++X) (D:M.tr.Nodup) (W:m.N≤M.N) (Z:M.K.lookup (s,t)=ah) (α:∀p∈M.tr,M.K.lookup p=ah):
  aE (k+1) 205 [.l (an 2),.l (ag s),.l (ag t)] (m.st R) (aA b) [] ((if b then m.outT M else m.outF M (s,t)).st r):=zo.of _ _ fun n E=>by
 have G:cX (.j [ag s,ag t]) (.e (e3 m.K))=ac false:=by have:=qp (p:=(s,t)) (l:=m.K);rw[L] at this;exact this
 have d:cX (.j [ag s,ag t]) (.e (cF m.tr))=ac false:=by have:=w' (p:=(s,t)) (l:=m.tr);exact cP A▸this
 have f:(vW.B fU (ag M.dp) (ae 1)).e=ac (ag m.dp):=by show ac (ae ((M.dp:Int)-1))=_;rw[U];simp
 have C:¬(20000:Int)≤(m.a:Int):=oa.mpr (g5.mpr P);have i:¬(60:Int)≤(m.dp:Int):=oa.mpr (g5.mpr Q);have x:m.tr.length≤1000000:=by have:=B.tr;exact dN (.c 1 .b (.n 50000) (.g 1 .b (.n 1000000))) rfl this
 have y:1≤n:=ao (bl T rfl) E;have j:=u_ (m:={m with a:=m.a+1}) (R:=R) B.N x n y;have o:=w2 (p:=(s,t)) A x;have u:fJ 3 (.c (m.tr.map bc)) [.j [ag s,ag t]]=ac (a4,.c ((m.tr++[(s,t)]).map bc)):=by
  show(if(m.tr.map bc).length≤b4 then ac (a4,b0.c (m.tr.map bc++[bc (s,t)])) else ah)=_
  rw[aJ (by rw[aB];exact x),cd];rfl
 obtain⟨X,F⟩:=V;have β:m.tr.length≤M.tr.length:=by rw[F];simp
 have γ:M.tr.take m.tr.length=m.tr:=by rw[F,ub]
 have v:=h n E;cases b with
 |false=>
  have g:=A8 (m:={M with dp:=m.dp}) (R:=r) D W β (jg S.tr (by decide)) n y;have I:gW (.e (e3 M.K)) (.j [ag s,ag t]) (aA ai)=ac (.e (e3 (M.K++[((s,t),ai)]))):=u6 (p:=(s,t)) Z (by have:=S.K;exact dN (.c 1 .b (.n 50000) (.g 1 .b (.n 1000000))) rfl this);rw[show(({tr:=M.tr.take m.tr.length,K:=M.K,dp:=m.dp,a:=M.a,N:=m.N,tel:=M.tel,tw:=M.tw}:bh))={M with dp:=m.dp,N:=m.N,tr:=m.tr} by rw[γ]] at g;by_cases z:(m.tr.length:Int)=0;exact aw 18700288655360 [.has G,.has d,.D C,.D i,.D C,.call j,.set o,.u u,.call v,.B f,.call g,.eq z,.set I];exact aw 300175265366016 [.has G,.has d,.D C,.D i,.D C,.call j,.set o,.u u,.call v,.B f,.call g,.C z,.set I]
 |true=>
  by_cases z:(m.tr.length:Int)=0
  ·have g:=Kt (m:={M with dp:=m.dp}) (R:=r) (c:=(M.N:Int)==(m.N:Int)) D α (aD S.tr rfl) (aD S.K rfl) n y;have e:m.outT M={M with dp:=m.dp,tr:=[],K:=M.K++if(M.N:Int)==(m.N:Int) then M.tr.map (fun p=>(p,af)) else[]}:=by
    unfold bh.outT;rw[aJ (fs.mp (dh z))];by_cases q:M.N=m.N
    ·rw[aJ q,aJ (by rw[q];exact iX _)]
    ·rw[aL q,aL (c:=((M.N:Int)==(m.N:Int))=af) (fun w=>q (dh (iv w))),c8]
   rw[aJ rfl,e];exact aw 565157567660032 [.has G,.has d,.D C,.D i,.D C,.call j,.set o,.u u,.call v,.B f,.eq z,.p (ds:=cx M.N (aj.j [ae 3,ae 0])) kX (aD S.N rfl),.call g]
  ·rw[aJ rfl,show m.outT M={M with dp:=m.dp} from aL fun e=>z (by rw[e];rfl)];exact aw 2207614238720 [.has G,.has d,.D C,.D i,.D C,.call j,.set o,.u u,.call v,.B f,.C z]
noncomputable def cz (k k':List Nat):Bool:=k.all fun u=>k'.contains u||ci k' u
structure aK where
 hs:List (List Nat)
 os:List (List Nat)
 rs:List (List Nat)
 ts:List (List Nat)
 c:Nat
noncomputable def aK.els (l:aK):List (List Nat×Nat):=l.hs.map (·,0)++l.os.map (·,1)++l.rs.map (·,2)++l.ts.map (·,0)
inductive oH (R:List aj):List aj→List (List Nat×Nat)→Prop
 |nil:oH R [] []
 |cons {e:Nat} {k O:List Nat} {mk:Nat} {E:List aj} {l:List (List Nat×Nat)}:bH R e k O→oH R E l→oH R (.j [ag e,ag mk]::E) ((k,mk)::l)
structure aK.Ok (a:aK):Prop where
 rs:a.rs.length≤1
 ts:a.ts≠[]→a.rs≠[]
 nk:∀k∈a.hs++a.os++a.rs++a.ts,gi k∧8∉k
 c:a.c≤1
 alt:a.os=[]∨a.ts=[]
noncomputable def aK.fr (a:aK):Nat:=a.hs.length+a.os.length
def cg (R:List aj) (t:Nat) (l:aK):Prop:=
 l.Ok∧((∃e k O,R[t]? =ac (.j [ae 11,ag e,ag l.c])∧bH R e k O∧l.hs=[]∧l.os=[]∧l.rs=[k]∧l.ts=[])∨
 (∃E,R[t]? =ac (.j [ae 12,.j E,ag l.c])∧oH R E l.els∧0<l.fr))
def aK.let (l:aK) (n:Nat):Prop:=l.hs.length+l.ts.length≤n∧(l.rs≠[]∨n≤l.hs.length+l.os.length+l.ts.length)
noncomputable def aK.slot (l:aK) (n p:Nat):List Nat:=
 if p<l.hs.length then(l.hs[p]?).getD []
 else if p<l.hs.length+l.os.length then cM ((l.os[p-l.hs.length]?).getD []++[8])
 else if n≤p+l.ts.length then(l.ts[p+l.ts.length-n]?).getD []
 else(l.rs[0]?).getD []
def db (a b:aK):Prop:=a.c≤b.c∧∀n,a.let n→b.let n∧∀p,p<n→cz (a.slot n p) (b.slot n p)=af
def Gq (R:List aj) (t:Nat):Prop:=∃(O:List Nat) (i:Nat) (l:aK),R[t]? =ac (.j [ae 6,.j (O.map ag)])∧i∈O∧cg R i l
def j0 (R:List aj) (p:Nat×Nat) (b:Bool):Prop:=
 (∃k O a i,bH R p.1 k O∧bH R p.2 a i∧b=cz k a)∨(∃l L,cg R p.1 l∧cg R p.2 L∧(b=af↔db l L))∨((∃l,cg R p.1 l)∧Gq R p.2)
structure eC (R:List aj) (Pr:List (Nat×Nat)) (m:bh):Prop where
 nd:m.tr.Nodup
 kt:∀p∈m.tr,m.K.lookup p=ah
 kok:∀p∈m.K,j0 R p.1 p.2
 aok:∀p∈m.tr,p∉Pr→j0 R p af
 len:m.K.length+m.tr.length≤m.a
 a:m.a≤20000
 N:m.N≤100000
structure dV (R:List aj) (Pr:List (Nat×Nat)) (m M:bh) (c:Nat):Prop where
 ok:eC R Pr M
 dp:M.dp=m.dp
 N:m.N≤M.N
 j:M.N≤m.N+c
 tel:M.tel=m.tel
 n:m.a≤M.a
 l:M.a≤m.a+c
 tr:∃X,M.tr=m.tr++X
 i:M.K.length+M.tr.length+m.a≤M.a+m.K.length+m.tr.length
 kf:m.tr≠[]→∀q∈M.K,q∈m.K∨q.2=ai
theorem dV.f (h:eC R Pr m):dV R Pr m m 0:=⟨h,rfl,bv _,bv _,rfl,bv _,bv _,⟨[],by simp⟩,b6 (.g 1 (.a (.a .b .f) .g) (.a (.a .g .b) .f)) rfl,fun _ _ h=>av h⟩
theorem Dl {d:Nat} (a:y≤x+c) (b:z≤y+d):z≤x+(c+d):=ao b (ao (dc a d) (a9 (ev ..)))
theorem dV.trans {M:bh} (a:dV R Pr m M c) (b:dV r Pr M g d):dV r Pr m g (c+d):=
 ⟨b.ok,b.dp.trans a.dp,ao a.N b.N,Dl a.j b.j,b.tel.trans a.tel,ao a.n b.n,Dl a.l b.l,a.tr.elim fun X h=>b.tr.elim fun y k=>⟨X++y,by rw[k,h,ef]⟩,by have u:=a.i;have U:=b.i;exact qX (.c 1 (.a (.a .b .f) .g) (.a (.a .j .l) .o) (.c 1 (.a (.a .p .q) .j) (.a (.a .r .b) .f) (.g 1 (.a (.a .p .q) .g) (.a (.a .r .l) .o)))) rfl u U,fun h q o=>(b.kf (by obtain⟨X,e⟩:=a.tr;rw[e];simp[h]) q o).elim (a.kf h q) aI⟩
theorem dV.le (a:dV R Pr m M c) (h:c≤d):dV R Pr m M d:=⟨a.ok,a.dp,a.N,by have:=a.j;exact b8 (.c 1 .b .f (.c 1 .g (.a .j .b) (.g 1 .g (.a .j .f)))) rfl h this,a.tel,a.n,by have:=a.l;exact b8 (.c 1 .b .f (.c 1 .g (.a .j .b) (.g 1 .g (.a .j .f)))) rfl h this,a.tr,a.i,a.kf⟩
structure iH (R:List aj) (Pr:List (Nat×Nat)) (m M:bh) (c:Nat):Prop extends dV R Pr m M c where
 eN:M.N=m.N
 tw:M.tw=m.tw
theorem iH.f (h:eC R Pr m):iH R Pr m m 0:=⟨.f h,rfl,rfl⟩
theorem iH.trans (a:iH R Pr m M c) (b:iH r Pr M e d):iH r Pr m e (c+d):=⟨a.todV.trans b.todV,b.eN.trans a.eN,b.tw.trans a.tw⟩
theorem iH.le (a:iH R Pr m M c) (h:c≤d):iH R Pr m M d:=⟨a.todV.le h,a.eN,a.tw⟩
theorem oH.mono (e:bL R r) (h:oH R E l):oH r E l:=h.rec .nil fun a _ i=>.cons (a.mono e) i
theorem cg.mono (e:bL R r) (h:cg R t l):cg r t l:=⟨h.1,h.2.imp (fun z=>j9 z fun x k O h p q=>mx x k O (e.at h) (p.mono e) q) fun z=>eB z fun E h p q=>gX E (e.at h) (p.mono e) q⟩
theorem j0.mono (e:bL R r) (h:j0 R p b):j0 r p b:=
 h.imp (fun z=>I4 z fun k O f I a b c=>Dk k O f I (a.mono e) (b.mono e) c) fun h=>h.imp (fun z=>cE z fun l L a b c=>er l L (a.mono e) (b.mono e) c) fun z=>z.elim fun Z g=>Z.elim fun l a=>j9 g fun O i L b c d=>⟨⟨l,a.mono e⟩,O,i,L,e.at b,c,d.mono e⟩
theorem eC.mono (e:bL R r) (h:eC R Pr m):eC r Pr m:=⟨h.nd,h.kt,fun p b=>(h.kok p b).mono e,fun p b q=>(h.aok p b q).mono e,h.len,h.a,h.N⟩
theorem eC.small (h:eC R Pr m):s_ m:=⟨by have:=h.len;have:=h.a;lia,by have:=h.len;have:=h.a;lia,by have:=h.N;exact dN (.c 1 .b (.n 100000) (.g 1 .b (.n 1000000))) rfl this⟩
theorem bH.head (h:bH R t k O):∃a x,R[t]? =ac (.j (ae a::x))∧(a=1∨a=2∨a=3∨a=4∨a=6):=by
 rcases h.pt.2 with⟨r,w,g,_,e⟩|⟨g,_⟩
 ·refine ay (h.to t (by rw[e];simp)) fun u _ b=> ?_;have:∀u,u<9→∃a x,ii u=.j (ae a::x)∧(a=1∨a=2∨a=3∨a=4):=fun u b=>p_ (P:=fun u=>∃a x,ii u=.j (ae a::x)∧(a=1∨a=2∨a=3∨a=4)) (Cw (cL 4 _ rfl (aI (aI (aI rfl)))) (cL 4 _ rfl (aI (aI (aI rfl)))) (cL 3 _ rfl (aI (aI (av rfl)))) (cL 2 _ rfl (aI (av rfl))) (cL 2 _ rfl (aI (av rfl))) (cL 1 _ rfl (av rfl)) (cL 1 _ rfl (av rfl)) (cL 1 _ rfl (av rfl)) (cL 1 _ rfl (av rfl))) u b;exact bK (this u b.2) fun a x E i=>cL a x (b.1.trans (aS ac E)) (i.imp_right fun h=>h.imp_right fun h=>h.imp_right av)
 ·exact cL 6 _ g (aI (aI (aI (aI rfl))))
theorem cg.head (h:cg R t l):∃a x,R[t]? =ac (.j [ae a,x,ag l.c])∧(a=11∨a=12):=by
 rcases h.2 with⟨e,k,O,h,_⟩|⟨E,h,_⟩
 ·exact cL 11 _ h (.inl rfl)
 ·exact cL 12 _ h (.inr rfl)
theorem bH.notLI (h:bH R t k O) (h':cg R t l):False:=by
 refine bK h.head fun a x g i=>bK h'.head fun b y j m=> ?_;have e:=aj.int.inj (rp (aj.j.inj (bD (g.symm.trans j)))).1;have l:aM (a<10)=true:=i.elim (fun e=>e▸rfl) fun h=>h.elim (fun e=>e▸rfl) fun h=>h.elim (fun e=>e▸rfl) fun h=>h.elim (fun e=>e▸rfl) fun e=>e▸rfl;have L:aM (b<10)=false:=m.elim (fun e=>e▸rfl) fun e=>e▸rfl;exact cp (L.symm.trans (e▸l))
theorem j0.plain (I:aW R) (h:j0 R (s,t) b) (c:bH R s k O) (d:bH R t k' i):b=cz k k':=by
 rcases h with⟨j,g,m,n,a,f,e⟩|⟨l,L,a,_⟩|⟨⟨l,a⟩,_⟩
 ·rw[e,(mE I c a).1,(mE I d f).1]
 ·exact(c.notLI a).elim
 ·exact(c.notLI a).elim
theorem bH.f (h:bH R t k O):∃row,R[t]? =ac row∧ig row:=by
 rcases h.pt.2 with⟨row,w,a,b,_⟩|⟨a,_⟩
 ·exact⟨row,a,.a b⟩
 ·exact bd _ a (.un _)
theorem C6 (h:i≠0) (a:i≠1) (b:i≠2) (c:i≠3) (d:i≠10) (f:i≠13):gj i:=
 ⟨fun e=>h (dh e),fun e=>a (dh e),fun e=>b (dh e),fun e=>c (dh e),fun e=>d (dh e),fun e=>f (dh e)⟩
theorem ML:((cv 16).all fun j=>j==12|| !(((dU[j]?.bind (aj.sq [])).bind fun q=>eA q (ae 0)).any (aj.beq (ae 6))))=true:=by decide+kernel
theorem mJ (h:i∉[0,1,2,3,10,11,12,13,14,15]):gj i:=by
 have f (j:Nat) (a:aM (j∈[0,1,2,3,10,11,12,13,14,15])=af):i≠j:=fun e=>h (e▸dB a);exact C6 (f 0 rfl) (f 1 rfl) (f 2 rfl) (f 3 rfl) (f 10 rfl) (f 13 rfl)
theorem bH.far (I:aW R) (h:bH R t k O):gj t:=by
 rcases h.pt.2 with⟨r,w,a,m,e⟩|⟨a,l⟩
 ·refine ay (h.to t (by refine ak e ?_;simp)) fun u _ g=> ?_;exact mJ (g.far I)
 ·have n (j:Nat) (b:j<16) (i:(j==12)=ai):t≠j:=fun e=>by
   rw[e,I.at b] at a;have:=cH.mp ML j (hB.mpr b);rw[a,i] at this;exact cp this
  exact C6 (n 0 (aY rfl) rfl) (n 1 (aY rfl) rfl) (n 2 (aY rfl) rfl) (n 3 (aY rfl) rfl) (n 10 (aY rfl) rfl) (n 13 (aY rfl) rfl)
theorem cq.head (h:cq R i u):∃a x,R[i]? =ac (.j (ae a::x))∧(a=1∨a=2∨a=3∨a=4)∧jD (.j (ae a::x)) (jb u):=by
 have:∀u,u<9→∃a x,ii u=.j (ae a::x)∧(a=1∨a=2∨a=3∨a=4):=fun u b=>p_ (P:=fun u=>∃a x,ii u=.j (ae a::x)∧(a=1∨a=2∨a=3∨a=4)) (Cw (cL _ _ rfl (aI (aI (aI rfl)))) ((cL _ _ rfl (aI (aI (aI rfl))))) ((cL _ _ rfl (aI (aI (av rfl))))) ((cL _ _ rfl (aI (av rfl)))) ((cL _ _ rfl (aI (av rfl)))) ((cL _ _ rfl (av rfl))) ((cL _ _ rfl (av rfl))) ((cL _ _ rfl (av rfl))) ((cL _ _ rfl (av rfl)))) u b;refine bK (this u h.2) fun a x e c=> ?_;have:=tm u h.2;rw[e] at this;exact er a x (by rw[h.1,e]) c this
theorem xA {O:List Nat}:(O.map ag).all (aj.plain n)=true:=cH.mpr fun x h=>(cr.mp h).elim fun i e=>e.2▸(by induction n<;>rfl)
theorem pZ {O:List Nat}:cX (ag i) (.j (O.map ag))=ac (O.contains i):=by
 have b:(aj.plain 8 (ag i)&&(O.map ag).all (aj.plain 8))=true:=by
  rw[fu];exact⟨rfl,xA⟩
 show(if(aj.plain 8 (ag i)&&(O.map ag).all (aj.plain 8))=af then ac ((O.map ag).any fun x=>aj.beq x (ag i)) else ah)=_
 rw[aJ b,List.any_map];congr 1;induction O with
 |nil=>rfl
 |cons a r I=>
  simp only[Sw,Function.comp_apply,RT,mh];rw[show(r.any ((fun x=>aj.beq x (ag i))∘ag))=r.contains i from I (by rw[fu];exact⟨rfl,xA⟩)];congr 1;by_cases h:a=i
  ·subst h;simp
  ·have c:¬i=a:=fun e=>h e.symm;simp[h,c5.mpr c]
theorem zo.up (h:aE j g a Y d cs st') (b:j≤k):aE k g a Y d cs st':=fun n c=>h n (ao b c)
noncomputable def qV:Option aj→cR
 |none=>a'
 |some d=>.h d
theorem tG {N:Nat→Prop} (p:List Nat) (f:u→aj) (l:List u) (F:m→au) (S:m→ar) (I:List u→m→Prop) (Q:cR→m→Prop) (k:m) (i:I [] k) (v:kw g p=af)
  (s:∀D j r1 x,l=D++j::r1→I D x→∃X a,(∀n,N n→ff n g p (hn (F k)) (f j) (F x) (S x) a (F X) (S X))∧((a=a'∨a=iz)∧I (D++[j]) X∧gy b (l.map f) (S X)=af∨qt a=af∧Q (qz a) X))
  (z:∀x,I l x→Q a' x):∃a x,Q a x∧∀n,N n→cc bw (aZ n) (dS g p b (l.map f) (F k) (S k)) a (F x) (S x):=by
 unfold kw at v;unfold ff p0 at s;unfold dS;generalize mH g p=q at v s;obtain⟨c,t,B⟩:=q;induction c with
 |some _=>exact(by injection v)
 |none=>
  have w:∀(r d:List u) (x:m),l=d++r→I d x→∃a y,Q a y∧∀n,N n→aQ (dw bw (aZ n) (p2 (nm g) p)) (·=(a,F y,S y)) (kI (eY bw (p2 (nm g) p)) B t (gy b (l.map f)) (hn (F k)) (r.map f) (F x) (S x) dW):=by
   intro r;induction r with
   |nil=>exact fun d x e h=>⟨a',x,z x (by rw[e,c8];exact h),fun _ _=>rfl⟩
   |cons j r A=>
    refine fun d x e h=>bK (s d j r x e h) fun X a T h=> ?_;rcases h with h|h
    ·exact bK (A _ X (e.trans (List.append_cons ..)) h.2.1) fun C y q w=>cL C y q (fun n o=>r9 (T n o) h.1 h.2.2 (w n o))
    ·exact cL _ X h.2 (fun n o=>A1 (T n o) h.1 rfl)
  exact w l [] k rfl i
theorem ma {n:Nat} {a:Type} (p:List Nat) (f:a→aj) (l:List a) (res:a→Option aj) (L:au) (Y:ar) (c:kw g p=af) (s:gy b (l.map f) Y=af)
  (S:∀j∈l,ff n g p (hn L) (f j) L Y (qV (res j)) L Y):cc bw (aZ n) (dS g p b (l.map f) L Y) (qV (l.findSome? res)) L Y:=by
 obtain⟨_,_,rfl,w⟩:=tG (N:=(·=n)) p f l (fun _:Unit=>L) (fun _=>Y) (fun d _=>d.findSome? res=ah) (fun F _=>F=qV (l.findSome? res)) () rfl c (fun D j R x e h=>⟨(),_,fun _ q=>q▸S j (eO e),by
  induction r:res j with
  |none=>exact av ⟨av rfl,by rw[Rs,h,xY,r];rfl,s⟩
  |some d=>exact aI ⟨rfl,by rw[e,Rs,h,xY,r];rfl⟩⟩) fun x h=>by rw[h];rfl
 exact w n rfl
theorem rU (l:List b) (p:b→Bool) (d:aj):l.findSome? (fun j=>if p j then ac d else ah)=if l.any p then ac d else none:=by
 induction l with
 |nil=>rfl
 |cons a l i=>refine ak (xY) (ak Sw (ak i ?_));cases p a<;>rfl
theorem nK {m:bh} (h:aE k 204 [.l (an 2),.l (ag s),.l (ag t)] (m.st R) d [] st'):aE (k+1) 4921 [.l (an 2),.l (ag s),.l (ag t)] (m.st R) d [] st':=zo.of _ _ fun n a=>by
 have h:=h n a;exact aw 0 [.call h]
theorem HZ [Decidable P]:(if P then(1:Int) else 0)=1↔P:=by by_cases h:P<;>simp[h]
theorem JD:ci [v] u=af↔(u<2∧v=6)∨(u=2∧v=7):=by
 simp only[ci,RT,List.contains_nil,Sy,dK,fu,dL];exact or_congr (and_congr ⟨fun h=>h.elim (fun e=>e▸aY rfl) fun e=>e▸aY rfl,fun h=>(x3 (iW h)).imp_left Nat.lt_one_iff.mp⟩ eq_comm) (and_congr .rfl eq_comm)
theorem H' {j:Nat}:jb u=(j:Int)↔(u<2∧j=7)∨(u=2∧j=6):=by
 match u with
 |0=>exact⟨fun h=>av ⟨aY rfl,(dh h).symm⟩,fun h=>h.elim (fun h=>by rw[h.2];rfl) fun h=>aR h.1 (by decide)⟩
 |1=>exact⟨fun h=>av ⟨aY rfl,(dh h).symm⟩,fun h=>h.elim (fun h=>by rw[h.2];rfl) fun h=>aR h.1 (by decide)⟩
 |2=>exact⟨fun h=>aI ⟨rfl,(dh h).symm⟩,fun h=>h.elim (fun h=>aR h.1 (by decide)) fun h=>by rw[h.2];rfl⟩
 |u+3=>exact⟨fun h=>(nomatch(h)),fun h=>h.elim (fun h=>aR (q9 (q9 h.1)) (kY _)) fun h=>aR (ue (ue h.1)) (D9 _)⟩
theorem za {m:bh} {R:List aj} (I:aW R) (c:cq R i u) (h:cq R j v):aE 6 4921 [.l (an 2),.l (ag i),.l (ag j)] (m.st R) (aA (cz [u] [v])) [] (m.st R):=nK (by
 have d:=I.un;by_cases f:i=j
 ·subst f;exact ak (c.code h) (ak (show cz [v] [v]=af by simp[cz]) (xL.up (aY rfl)))
 ·refine cE c.head fun a x g l w=>cE h.head fun b y k n o=> ?_;have p:i=4→jb u= -1:=fun e=>by subst e;refine ak (c.code d.1) ?_;rfl
  have:=Bt (m:=m) (fun e=>f (dh e)) g (.a w) k (.a o) (by split<;>simp) (MY (mJ (c.far I)) (mJ (h.far I)) g w k l n p);have e:cz [u] [v]=aM ((if jb u=(j:Int) then(1:Int) else 0)=1):=by
   have q:(v==u)=false:=c5.mpr fun e=>f (by subst e;exact c.inj I h);have r:v=6↔j=7:=⟨fun e=>h.inj I (e▸d.2.2.2.1),fun e=>by subst e;exact h.code d.2.2.2.1⟩;have s:v=7↔j=6:=⟨fun e=>h.inj I (e▸d.2.2.1),fun e=>by subst e;exact h.code d.2.2.1⟩;have E:cz [u] [v]=ci [v] u:=by simp[cz,oh (c5.mp q)]
   rw[E,ji,JD,k0,HZ,H',r,s]
  refine ak e ?_;exact this)
theorem F2 {js:List Nat} (h:∀j∈js,aE (k+1) 4921 [.l (an 2),.l (ag s),.l (ag j)] (m.st R) (aA (res j)) [] (m.st R)) (S:s_ m):
  aE (k+2) 218 [.l (an 2),.l (ag s),.l (.j (js.map ag))] (m.st R) (aA (js.any res)) [] (m.st R):=zo.of _ _ fun n a=>by
 have G:=u_ (R:=R) S.N (aD S.tr rfl) n (ao (gH _ _) a);have l:=ma (g:=218) (b:=ah) [1] ag js (fun j=>if res j then ac (aA af) else ah) [(27,.l (an 2)),(29,.l (ag s)),(23,.l (.j (js.map ag))),(40,.l a4)] (m.st R) rfl rfl fun j c=>by
  have h:=h j c n a;cases r:res j<;>rw[r] at h
  ·exact bq 0 [.call G,.call h]
  ·exact bq 4352 [.call G,.call h,.p (ds:=cx m.N (aj.j [ae 3,ae 0])) kX (aD S.N rfl),.eq (i:=(m.N:Int)) rfl]
 rw[rU] at l;cases e:js.any res<;>rw[e] at l<;>exact aw 0 [.sub l]
theorem vH (o:eC R Pr m) (e:bL R r) (G:m.K.lookup (s,t)=ah) (A:(s,t)∉m.tr) (I:2≤k) (n:m.a<20000) (L:m.dp<60) (Q:m.tr≠[]∨Pr=[])
  (h:aE k 215 [.l (an 2),.l (ag s),.l (ag t)] ((m.into (s,t)).st R) (aA b) [] (M.st r)) (g:dV r ((s,t)::Pr) (m.into (s,t)) M c) (v:j0 r (s,t) b):
  ∃j,aE (k+1) 205 [.l (an 2),.l (ag s),.l (ag t)] (m.st R) (aA b) [] (j.st r)∧dV r Pr m j (c+1)∧j.tw=M.tw∧(b=af→j.N=M.N)∧(b=ai→j.N=m.N∧j.tr=m.tr):=by
 have N:=g.N;refine g.tr.elim fun X d=> ?_;have d:M.tr=m.tr++([(s,t)]++X):=by rw[d];show(m.tr++[(s,t)])++X=_;rw[ef]
 have S:(s,t)∈M.tr:=by rw[d];simp
 have T:=g.dp;have l:=g.tel;have w:m.a+1≤M.a:=g.n;have i:M.a≤m.a+1+c:=g.l;have u:M.K.length+M.tr.length+(m.a+1)≤M.a+m.K.length+(m.tr++[(s,t)]).length:=g.i;have B:M.tr.length=m.tr.length+1+X.length:=by rw[d];simp;exact e8 (cD (.g 1 (.a .b (.a .f .n1)) (.a (.a .b .n1) .f)) rfl) (cD (.g 1 (.a (.a .b .n1) .f) (.a .b (.a .f .n1))) rfl)
 simp at u;refine xC _ (L_ G A n L o.small g.ok.small h I T ⟨_,d⟩ g.ok.nd N (g.ok.kt _ S) g.ok.kt) (?_) (?_) (?_) (?_)
 ·cases b with
  |false=>
   refine⟨⟨o.nd,fun p a=> ?_,fun p a=> ?_,fun p a q=>(o.aok p a q).mono e, ?_,g.ok.a,o.N⟩,rfl,bv _,by show m.N≤_;exact cD (.g 1 .b (.a .b (.a .f .n1))) rfl,l, ?_, ?_,⟨[],by show m.tr=_;simp⟩, ?_,fun _ q f=> ?_⟩
   ·refine B' (g.ok.kt p (by rw[d];exact cG _ a)) ?_;rw[fP,c5.mpr (fun e:p=(s,t)=>A (e▸a))];rfl
   ·rcases dD.mp a with a|a
    ·exact g.ok.kok p a
    ·rw[List.mem_singleton.mp a];exact v
   ·show(M.K++[((s,t),false)]).length+m.tr.length≤M.a;have:=o.len;simp;exact lB (.c 1 (.a (.a .b .n1) .f) .g (.c 1 (.a (.a .j .g) (.a .l .n1)) (.a (.a .o .p) (.a .b .n1)) (.c 1 (.a .p .b) .l (.g 1 (.a (.a .j .n1) .b) .o)))) rfl (Nat.le_of_eq (Eq.symm B)) u this
   ·show m.a≤M.a;exact cD (.c 1 (.a .b .n1) (.n 20000) (.c 19999 (.a .b .n1) .f (.g 20000 .b .f))) rfl n w
   ·show M.a≤_;exact b6 (.c 1 .b (.a (.a .f .n1) .g) (.g 1 .b (.a .f (.a .g .n1)))) rfl i
   ·show(M.K++[((s,t),false)]).length+m.tr.length+m.a≤M.a+m.K.length+m.tr.length;simp;exact lB (.c 1 (.a (.a .b .n1) .f) .g (.c 1 (.a (.a .j .g) (.a .l .n1)) (.a (.a .o .p) (.a .b .n1)) (.g 1 (.a (.a (.a .j .n1) .b) .l) (.a (.a .o .p) .b)))) rfl (Nat.le_of_eq (Eq.symm B)) u
   ·rcases List.mem_append.mp f with f|f
    ·exact g.kf (by simp[bh.into]) q f
    ·exact ak (List.mem_singleton.mp f) (.inr rfl)
  |true=>
   refine ak (aJ rfl) ?_;by_cases z:m.tr=[]
   ·have P:=Q.resolve_left fun h=>h z;subst P;have E:m.outT M={M with dp:=m.dp,tr:=[],K:=if M.N=m.N then M.K++M.tr.map (fun p=>(p,af)) else M.K}:=aJ z
    refine ak E ?_;have C:(if M.N=m.N then M.K++M.tr.map (fun p=>(p,af)) else M.K).length≤M.K.length+M.tr.length:=by split<;>simp
    refine⟨⟨h7,(fun p a=>(by cases a)),fun p a=> ?_,(fun p a=>(by cases a)), ?_,g.ok.a,g.ok.N⟩,rfl,N,by have h:M.N≤m.N+c:=g.j;show M.N≤_;exact b6 (.c 1 .b (.a .f .g) (.g 1 .b (.a .f (.a .g .n1)))) rfl h,l, ?_, ?_,⟨[],by refine ak z ?_;rfl⟩, ?_,fun h=>aR z h⟩
    ·have a:p∈(if M.N=m.N then M.K++M.tr.map (fun p=>(p,af)) else M.K):=a
     split at a
     ·rcases dD.mp a with a|a
      ·exact g.ok.kok p a
      ·refine ay (List.mem_map.mp a) fun q f y=> ?_;subst y;by_cases D:q=(s,t)
       ·exact ak D v
       ·exact g.ok.aok q f fun x=>D (bW.mp x)
     ·exact g.ok.kok p a
    ·show(if M.N=m.N then M.K++M.tr.map (fun p=>(p,af)) else M.K).length+0≤M.a
     have:=g.ok.len;exact b8 (.c 1 .b (.a .f .g) (.c 1 (.a .f .g) .j (.g 1 (.a .b .n0) .j))) rfl C this
    ·show m.a≤M.a;exact cD (.c 1 (.a .b .n1) (.n 20000) (.c 19999 (.a .b .n1) .f (.g 20000 .b .f))) rfl n w
    ·show M.a≤_;exact b6 (.c 1 .b (.a (.a .f .n1) .g) (.g 1 .b (.a .f (.a .g .n1)))) rfl i
    ·show(if M.N=m.N then M.K++M.tr.map (fun p=>(p,af)) else M.K).length+0+m.a≤M.a+m.K.length+m.tr.length
     exact lB (.c 1 (.a (.a .b .f) (.a .g .n1)) (.a (.a .j .l) (.a .o .n1)) (.c 1 .p (.a .b .f) (.g 1 (.a (.a .p .n0) .g) (.a (.a .j .l) .o)))) rfl u C
   ·have E:m.outT M={M with dp:=m.dp}:=aL z;refine ak E ?_;refine⟨⟨g.ok.nd,g.ok.kt,g.ok.kok,fun p a q=> ?_,g.ok.len,g.ok.a,g.ok.N⟩,rfl,N,by have h:M.N≤m.N+c:=g.j;show M.N≤_;exact b6 (.c 1 .b (.a .f .g) (.g 1 .b (.a .f (.a .g .n1)))) rfl h,l, ?_, ?_,⟨_,d⟩, ?_,fun _=>g.kf (by simp[bh.into])⟩
    ·by_cases F:p=(s,t)
     ·exact ak F v
     ·exact g.ok.aok p a fun x=>(eS.mp x).elim F q
    ·show m.a≤M.a;exact cD (.c 1 (.a .b .n1) (.n 20000) (.c 19999 (.a .b .n1) .f (.g 20000 .b .f))) rfl n w
    ·show M.a≤_;exact b6 (.c 1 .b (.a (.a .f .n1) .g) (.g 1 .b (.a .f (.a .g .n1)))) rfl i
    ·lia
 ·cases b with
  |false=>rfl
  |true=>show(m.outT M).tw=_;unfold bh.outT;split<;>rfl
 ·rintro rfl;show(m.outT M).N=_;unfold bh.outT;split<;>rfl
 ·rintro rfl;exact⟨rfl,rfl⟩
theorem Gr {R:List aj} {k:Nat} (l:R[i]? =ac (.j (ae a::x))) (b:a=1∨a=2∨a=3∨a=4) (p:gR R t O)
  (h:∀j∈O,aE (k+1) 4921 [.l (an 2),.l (ag i),.l (ag j)] (m.st R) (aA (res j)) [] (m.st R)) (S:s_ m):
  aE (k+3) 220 [.l (an 2),.l (ag i),.l (ag t)] (m.st R) (aA (O.contains i||O.any res)) [] (m.st R):=zo.of _ _ fun n f=>by
 have G:aZ n 165 [.l (an 0),.l (ag t)] (m.st R) (.j (O.map ag)) [] (m.st R):=jo p n (ao (gH _ _) f);have d:=F2 h S n f;have g:=pZ (i:=i) (O:=O);have o:=dH l;have q:=eK (a:=ae a) (x:=x);have I:cX (ae a) (.j [ae 10,ae 14,ae 15,ae 16,ae 17,ae 18,ae 19])=ac ai∧cX (ae a) (.j [ae 8,ae 9])=ac false:=by
  rcases b with e|e|e|e<;>(subst e;exact⟨rfl,rfl⟩)
 obtain⟨I,s⟩:=I;have c:=qQ (k:=7) b rfl;have C:=qQ (k:=12) b rfl;cases u:O.contains i<;>rw[u] at g
 ·cases r:O.any res<;>rw[r] at d
  ·exact aw 4096 [.call G,.has g,.call d,.get o,.get q,.has I,.C c,.C c,.has s,.C C]
  ·exact aw 0 [.call G,.has g,.call d]
 ·exact aw 0 [.call G,.has g]
theorem B4 {m:bh} (b:R[s]? =ac (.j (ae a::x))) (c:¬a=6) (e:R[t]? =ac (.j [ae 6,p]))
  (h:aE k 220 [.l (an 2),.l (ag s),.l (ag t)] (m.st R) d [] st'):aE (k+1) 215 [.l (an 2),.l (ag s),.l (ag t)] (m.st R) d [] st':=zo.of _ _ fun n f=>by
 have h:=h n f;have g:=dH b;have G:=eK (a:=ae a) (x:=x);have i:=dH e;exact aw 69632 [.get g,.get G,.get i,.C c,.call h]
theorem Hd {m:bh} (c:R[s]? =ac (.j [ae 6,p])) (e:R[t]? =ac (.j (ae b::y)))
  (h:aE k 217 [.l (an 2),.l (ag s),.l (ag t)] (m.st R) d [] st'):aE (k+1) 215 [.l (an 2),.l (ag s),.l (ag t)] (m.st R) d [] st':=zo.of _ _ fun n f=>by
 have h:=h n f;have g:=dH c;have G:=eK (a:=ae b) (x:=y);have i:=dH e;exact aw 4112 [.get g,.get i,.get G,.call h]
theorem w1 (o:eC R Pr m) (k:m.K.lookup p=ah) (t:p∉m.tr) (d:m.a<20000):eC R (p::Pr) (m.into p) where
 nd:=ke.mpr ⟨o.nd,by simp,fun A f b g e=>t (by rw[bW.mp g] at e;exact e▸f)⟩
 kt:=fun q c=>by
  rcases dD.mp c with h|h
  ·exact o.kt q h
  ·rw[List.mem_singleton.mp h];exact k
 kok:=o.kok
 aok:=fun q c n=>by
  rcases dD.mp c with h|h
  ·exact o.aok q h fun i=>n (je _ i)
  ·exact aR (bW.mp h▸kZ) n
 len:=by have:=o.len;refine(?_:m.K.length+(m.tr++[p]).length≤m.a+1);simp;exact b6 (.c 1 (.a .b .f) .g (.g 1 (.a .b (.a .f .n1)) (.a .g .n1))) rfl this
 a:=d
 N:=o.N
theorem tg {l:List ((Nat×Nat)×Bool)} (h:l.lookup p=ac b):(p,b)∈l:=(Rg.mp h).elim fun _ h=>h.elim fun _ h=>h.1▸eD _ (cU _)
noncomputable def he (R:List aj) (j:Nat):Nat:=by
 classical exact if h:∃v,cq R j v then h.choose else 0
theorem hS (h:cq R j v):he R j=v:=by
 unfold he;have x:∃v,cq R j v:=⟨v,h⟩;exact ak (dif_pos x) (x.choose_spec.code h)
theorem bH.cod_mem (h:bH R t k O):v∈k↔∃j∈O,he R j=v:=by
 constructor
 ·exact fun g=>ay (h.fr v g) fun j a b=>bd j a (hS b)
 ·rintro ⟨j,a,e⟩;refine ay (h.to j a) fun u b i=> ?_;rw[←e,hS i];exact b
theorem LR:cz [u] [v]=(u==v||ci [v] u):=by
 unfold cz;simp;rfl
theorem KI (I:aW R) (f:cq R i u) (h:bH R t k O):(O.contains i||O.any fun j=>cz [u] [he R j])=cz [u] k:=by
 rw[ji];have e:cz [u] k=af↔u∈k∨ci k u=true:=by unfold cz;simp[tY]
 rw[e];simp only[dK,tY,n6,t6,LR,dL];have c:6∈k↔∃j∈O,he R j=6:=h.cod_mem;have d:7∈k↔∃j∈O,he R j=7:=h.cod_mem;constructor
 ·rintro (m|⟨j,a,e|e⟩)
  ·exact av (h.cod_mem.mpr (bd i m (hS f)))
  ·exact av (h.cod_mem.mpr (bd j a e.symm))
  ·right;unfold ci at e⊢;simp only[dK,fu,dL,tY,n6,bW] at e⊢;rcases e with⟨E,b⟩|⟨E,b⟩
   ·exact .inl ⟨E,c.mpr ⟨j,a,b.symm⟩⟩
   ·exact .inr ⟨E,d.mpr (bd j a b.symm)⟩
 ·rintro (g|e)
  ·exact ay (h.cod_mem.mp g) fun j a e=>aI (bd j a (av e.symm))
  ·right;unfold ci at e⊢;simp only[dK,fu,dL,tY,n6,bW] at e⊢;rcases e with⟨E,b⟩|⟨E,b⟩
   ·exact ay (c.mp b) fun j a e=>bd j a (aI (av ⟨E,e.symm⟩))
   ·exact ay (d.mp b) fun j a e=>bd j a (aI (aI ⟨E,e.symm⟩))
theorem bH.c (h:bH R t k O):(∃v,k=[v]∧O=[t]∧cq R t v)∨(R[t]? =ac (.j [ae 6,.j (O.map ag)])∧2≤O.length):=by
 rcases h.pt.2 with⟨n,w,a,b,e⟩|a
 ·left;refine ay (h.to t (by rw[e];simp)) fun v l u=> ?_;refine gX v (?_) e u;have:∀x∈k,x=v:=fun x m=>by
   refine ay (h.fr x m) fun j g i=> ?_;rw[e] at g;rw[bW.mp g] at i;exact i.code u
  have s:=h.nk.2.1
  match k,l,this,s with
  |[x],_,h,_=>rw[h x (by simp)]
  |x::y::r,_,h,s=>
   have a:=h x (by simp);have b:=h y (by simp);have:=(pr.mp s).1 y (by simp);exact aR ((a.trans b.symm)▸this:y<y) (gI y)
 ·exact aI a
theorem bH.ids_le (I:aW R) (h:bH R t k O):O.length≤k.length:=by
 have w:(O.map (he R)).Nodup:=by
  have n:=h.sorted.imp fun h=>hZ h;have g:∀i∈O,∃u,cq R i u:=fun i o=>ay (h.to i o) fun u _ g=>⟨u,g⟩;have y:∀l:List Nat,l.Nodup→(∀i∈l,∃u,cq R i u)→(l.map (he R)).Nodup:=by
   intro l;induction l with
   |nil=>intro _ _;exact h7
   |cons a r z=>
    intro n g;rw[gn] at n;refine gn.mpr ⟨fun m=>(ay (cr.mp m) fun b p e=> ?_),z n.2 fun i o=>g i (je _ o)⟩;obtain⟨u,q⟩:=g a kZ;obtain⟨v,s⟩:=g b (je _ p);rw[hS q,hS s] at e;subst e;exact n.1 (q.inj I s▸p)
  exact y O n g
 have:=w.length_le_of_subset (l₂:=k) fun x A=>by
  exact ay (cr.mp A) fun j B e=>h.cod_mem.mpr (bd j B e)
 simpa using this
theorem Pj (h:bH R s k O):O.all (fun i=>cz [he R i] k')=cz k k':=by
 rw[ji,cH];have e:∀u,cz [u] k'=(k'.contains u||ci k' u):=fun u=>by unfold cz;simp
 unfold cz;rw[cH];constructor
 ·refine fun a u c=>ay (h.cod_mem.mp c) fun j b y=> ?_;subst y;have:=a j b;rw[←e];exact this
 ·intro a j b;have:=a _ (h.cod_mem.mpr (bd j b rfl));rw[←e] at this;exact this
theorem y1 {s:Nat} (u:eC R Pr m) (y:s≠t) (z:R[s]? =ac r) (A:ig r) (B:R[t]? =ac C) (D:ig C) (E:aE 2 209 [.l (an 2),.l (ag s),.l (ag t)] (m.st R) (ae (-1)) [] (m.st R))
  (v:2≤k) (w:m.a<20000) (p:m.dp<60) (F:m.tr≠[]∨Pr=[]) (G:(s,t)∉Pr) (Q:Bool→bh→List aj→Prop) (n:∀b,j0 R (s,t) b→(b=af∧(s,t)∈m.tr∨((s,t),b)∈m.K)→Q b m R)
  (l:eC R ((s,t)::Pr) (m.into (s,t))→(s,t)∉m.tr→∃j a b c,aE k 215 [.l (an 2),.l (ag s),.l (ag t)] ((m.into (s,t)).st R) (aA b) [] (j.st a)∧bL R a∧dV a ((s,t)::Pr) (m.into (s,t)) j c∧j0 a (s,t) b∧
   ∀M,dV a Pr m M (c+1)→M.tw=j.tw→(b=af→M.N=j.N)→(b=ai→M.N=m.N∧M.tr=m.tr)→Q b M a):
  ∃M d b,aE (k+3) 4921 [.l (an 2),.l (ag s),.l (ag t)] (m.st R) (aA b) [] (M.st d)∧Q b M d:=by
 suffices h:∃M d b,aE (k+1) 205 [.l (an 2),.l (ag s),.l (ag t)] (m.st R) (aA b) [] (M.st d)∧Q b M d by
  refine hR h ?_;clear h;intro M d b h q;exact iO M d b (nK (v1 (fun e=>y (dh e)) z A B D (E.up (aY rfl)) h (b3 v))) q
 induction f:m.K.lookup (s,t) with
 |some b=>exact⟨m,R,b,(Bj f).up (gH _ _),n b (u.kok _ (tg f)) (aI (tg f))⟩
 |none=>
  by_cases i:(s,t)∈m.tr
  ·exact iO m R af ((y2 f i).up (gH _ _)) (n af (u.aok _ i G) (av ⟨rfl,i⟩))
  ·exact Mg (l (w1 u f i w) i) fun j a b c h x g o q=>xo (vH u x f i v w p F h g o) fun M I L N P S=>iO M a b I (q M L N P S)
theorem CF {o:Option aj} (c:o=ac (.j (ae a::x))) (h:o=ac (.j (ae b::y))):a=b:=by
 rw[c] at h;cases h;rfl
theorem yI (I:aW R) (q:eC R Pr m) (d:cq R i u) (c:bH R t k O) (D:∀p∈Pr,p.1≠i) (E:m.a<20000) (F:m.dp<60) (G:m.tr≠[]):
  ∃M,aE 12 4921 [.l (an 2),.l (ag i),.l (ag t)] (m.st R) (aA (cz [u] k)) [] (M.st R)∧iH R Pr m M 1:=by
 rcases c.c with⟨v,rfl,rfl,n⟩|⟨w,l⟩
 ·exact⟨m,(za I d n).up (aY rfl),(iH.f q).le (Nat.zero_le _)⟩
 refine cE d.head fun a x f s L=> ?_;have A:¬a=6:=fun e=>aR (e▸s) (by decide);have N:i≠t:=fun e=>A (CF f (e▸w));have y:=bH.d I d
 obtain⟨M,r,b,h,rfl,rfl,g⟩:=y1 (k:=9) q N f (.a L) w (.un _) (xP (mJ (d.far I)) (c.far I) f w (aI ⟨s.imp_right fun h=>h.imp_right fun h=>h.imp_right av,rfl⟩)) (aY rfl) E F (av G) (fun h=>D _ h rfl) (fun b M r=>b=cz [u] k∧r=R∧iH R Pr m M 1)
  (fun b o _=>fe (o.plain I y c) rfl ((iH.f q).le (cA _))) fun z _=>by
   have B:=Gr f s c.pt (fun j P=>by
    refine ay (c.to j P) fun v _ n=> ?_;exact za I d (hS n▸n)) z.small
   rw[KI I d c] at B;exact CQ _ R _ 0 (B4 f A w B) .f (.f z) (av ⟨[u],[i],k,O,y,c,rfl⟩) (fun M Q S T U=>⟨rfl,rfl,Q,by induction C:cz [u] k with|true=>exact T C|false=>exact(U C).1,S⟩)
 exact bd M h g
theorem Lj (e:l=d++j::r) (h:q j=ai):l.all q=false:=by
 rw[e,yb,m0,h,yf,Bool.and_false]
theorem NM:(d++[j]).all q=(d.all q&&q j):=by rw[yb,m0,SK,n9]
theorem Jr (o:eC R Pr m) (p:gR R s O)
  (h:∀i∈O,∀u c,iH R Pr m u c→c<O.length→∃M,aE 12 4921 [.l (an 2),.l (ag i),.l (ag t)] (u.st R) (aA (res i)) [] (M.st R)∧iH R Pr u M 1):
  ∃M,aE 13 217 [.l (an 2),.l (ag s),.l (ag t)] (m.st R) (aA (O.all res)) [] (M.st R)∧iH R Pr m M O.length:=by
 obtain⟨f,M,⟨q,g⟩,l⟩:=tG (g:=217) (b:=ah) [0] ag O (fun _:bh=>[(27,.l (an 2)),(29,.l (ag s)),(19,.l (ag t))]) (fun m=>m.st R) (fun d M=>d.all res=af∧iH R Pr m M d.length) (fun f M=>f=(if O.all res then a' else .h (aA ai))∧iH R Pr m M O.length) m ⟨rfl,.f o⟩ rfl
  (fun D j C u e z=>z.elim fun w g=>by
   have v:D.length<O.length:=by rw[e];simp
   refine ay (h j (eO e) u D.length g v) fun M a y=> ?_;have G:=g.trans y;cases r:res j<;>have a:=r▸a
   ·refine cL M (.h (aA ai)) (fun n k=> ?_) (aI ⟨rfl,by rw[Lj e r];rfl,G.le v⟩);have a:=a n k;exact bq 0 [.call a]
   ·refine cL M a' (fun n k=> ?_) (av ⟨av rfl,⟨by rw[NM,w,r];rfl,by rw[bi];exact G⟩,rfl⟩);have a:=a n k;exact bq 0 [.call a])
  fun x h=>⟨by rw[h.1];rfl,h.2⟩
 refine bd M (zo.of _ _ fun n k=> ?_) g;have A:aZ n 165 [.l (an 0),.l (ag s)] (m.st R) (.j (O.map ag)) [] (m.st R):=jo p n (bl k rfl);have l:=l n k;subst q;cases B:O.all res<;>rw[B] at l<;>exact aw 0 [.call A,.sub l]
theorem LL:cz k k=true:=cH.mpr fun u h=>by refine ak (ee.mpr h) ?_;rfl
theorem K_ (I:aW R) (n:eC R Pr m) (d:bH R s k O) (f:bH R t k' V) (r:∀p∈Pr,p.1≠s∧p.1∉O) (C:m.a+k.length+1≤20000) (D:m.dp<59) (L:m.tr≠[]):
  ∃M,aE 17 4921 [.l (an 2),.l (ag s),.l (ag t)] (m.st R) (aA (cz k k')) [] (M.st R)∧iH R Pr m M (k.length+1):=by
 rcases d.c with⟨v,rfl,rfl,W⟩|⟨w,l⟩
 ·exact ay (yI I n W f (fun p j=>(r p j).1) (cD (.c 1 (.a (.a .b .f) .n1) (.n 20000) (.g 1 (.a .b .n1) (.n 20000))) rfl C) (dN (.c 1 (.a .b .n1) (.n 59) (.g 1 (.a .b .n1) (.n 60))) rfl D) L) fun M E z=>bd M (E.up (aY rfl)) (z.le (gH _ _))
 by_cases N:s=t
 ·subst N;obtain⟨rfl,_⟩:=mE I d f;exact ak LL (bd m ((nK xL).up (aY rfl)) ((iH.f n).le (cA _)))
 refine bK f.head fun b y z A=>ay f.f fun ξ Z α=> ?_
 obtain⟨M,P,b,h,rfl,rfl,g⟩:=y1 (k:=14) n N w (.un _) Z α (xP (d.far I) (f.far I) w z (av ⟨rfl,A⟩)) (aY rfl) (cD (.c 1 (.a (.a .b .f) .n1) (.n 20000) (.g 1 (.a .b .n1) (.n 20000))) rfl C) (dN (.c 1 (.a .b .n1) (.n 59) (.g 1 (.a .b .n1) (.n 60))) rfl D) (av L) (fun h=>(r _ h).1 rfl) (fun b M P=>b=cz k k'∧P=R∧iH R Pr m M (k.length+1))
  (fun b o _=>fe (o.plain I d f) rfl ((iH.f n).le (cA _))) fun β _=>by
   have γ:s∉O:=fun δ=>by
    refine ay (d.to s δ) fun u _ B=>cE B.head fun a x E ε _=> ?_;have:=CF E w;exact qQ ε rfl this
   have S:=d.ids_le I;obtain⟨ζ,T,G⟩:=Jr (res:=fun i=>cz [he R i] k') β d.pt fun i F U c g η=>by
    refine ay (d.to i F) fun u _ B=> ?_;simp only[hS B];have θ:U.a≤m.a+1+c:=g.l;have ι:U.dp=m.dp+1:=g.dp;obtain⟨X,κ⟩:=g.tr;refine yI I g.ok B f (fun p j=> ?_) (e6 (.c 1 (.a (.a .b .f) .n1) (.n 20000) (.c 1 .g .f (.c 1 (.a .j .n1) .g (.c 1 .l (.a (.a .b .n1) .j) (.g 1 (.a .l .n1) (.n 20000)))))) rfl C S η θ) (cD (.c 1 (.a .b .n1) (.n 59) (.c 1 .f (.a .b .n1) (.g 1 (.a .f .n1) (.n 60)))) rfl D (a9 ι)) (by refine ak κ ?_;simp[bh.into]);rcases eS.mp j with rfl|j
    ·exact fun e:s=i=>γ (e▸F)
    ·exact fun e=>(r p j).2 (e▸F)
   rw[Pj d] at T;exact⟨ζ,R,_,_,Hd w z T,.f,G.todV,av (Dk k O k' V d f rfl),fun M q Q μ ν=>⟨rfl,rfl,q.le (b3 S),by
    induction A:cz k k' with
    |true=>exact ak (μ A) G.eN
    |false=>exact(ν A).1,Q.trans G.tw⟩⟩
 exact bd M h g
noncomputable def bh.stW (m:bh) (R:List aj) (tr:List (Nat×Nat)) (K:List ((Nat×Nat)×Bool)) (dp lk:Nat):ar:=
 aF R::bF::mO (b1 (.e qh)) m.tr m.K m.dp m.a 1 3 m.tel (an 7)::es m.N::⟨273,[]⟩::⟨257,[]⟩::⟨252,[]⟩::[mO (.l (da 2 1)) tr K dp lk 3 8 ai a4,es 0]
section
variable{m:bh}
noncomputable def hQ (F:List (Nat×Nat)):List ((Nat×Nat)×Bool):=F.map fun p=>(p,ai)
theorem O4:(hQ F).lookup p=if p∈F then ac ai else none:=by
 induction F with
 |nil=>rfl
 |cons q F i=>
  show((q,ai)::hQ F).lookup p=_;refine ak fP ?_;by_cases h:p=q
  ·subst h;simp
  ·refine ak (c5.mpr h) (ak i ?_);simp[h]
noncomputable def d8:Option (List (Nat×Nat)×Nat)→Prop
 |none=>True
 |some (F,l)=>F.length≤l∧l≤20000
theorem Mh:aE 1 207 [.l (an 7)] (m.stW R tr K dp lk) (aA ai) [] (m.stW R tr K dp lk):=zo.of _ _ fun n h=>by
 exact aw 0 []
theorem AA (h:tr.length≤1):aE 1 4924 [.l (an 7)] (m.stW R tr K dp lk) (.j [ag 0,ag tr.length]) [] (m.stW R tr K dp lk):=zo.of _ _ fun n a=>by
 exact aw 1 [.p (ds:=tr.map bc) (aB _) (aD h rfl)]
theorem Qj:aE 1 204 [.l (an 7),.l (ag s),.l (ag s)] (m.stW R tr K dp lk) (aA af) [] (m.stW R tr K dp lk):=zo.of _ _ fun n h=>by
 have c:(s:Int)=s:=rfl;exact aw 0 [.eq c]
theorem B0 (r:s≠t) (f:gj s) (F:gj t) (d:R[s]? =ac (.j (ae a::x))) (k:ig (.j (ae a::x))) (j:R[t]? =ac (.j (ae b::y))) (u:ig (.j (ae b::y)))
  (v:(a=1∨a=2∨a=3∨a=4)∨(a=6∧(b=1∨b=2∨b=3∨b=4))):aE 4 204 [.l (an 7),.l (ag s),.l (ag t)] (m.stW R tr K dp lk) (aA ai) [] (m.stW R tr K dp lk):=zo.of _ _ fun n l=>by
 have g:aZ n 203 [.l (an 1),.l (ag s)] (m.stW R tr K dp lk) (ag s) [] (m.stW R tr K dp lk):=l5 d k n l;have G:aZ n 203 [.l (an 1),.l (ag t)] (m.stW R tr K dp lk) (ag t) [] (m.stW R tr K dp lk):=l5 j u n l;replace d:=dH d;replace j:=dH j;have o:=eK (a:=ae a) (x:=x);have w:=eK (a:=ae b) (x:=y);have c:¬(s:Int)=t:=fun e=>r (dh e);have C:=f.a;have p:=F.a;have q:∀a:Int,(a=1∨a=2∨a=3∨a=4)→cX (ae a) (.j [ae 1,ae 2,ae 3,ae 4,ae 5])=ac true:=fun a e=>by rcases e with e|e|e|e<;>(subst e;rfl)
 rcases v with h|⟨rfl,h⟩
 ·have i:=q a h;exact aw 65536 [.C c,.call g,.call G,.C c,.C C,.C p,.get d,.get o,.has i]
 ·have i:=q b h;exact aw 4295032832 [.C c,.call g,.call G,.C c,.C C,.C p,.get d,.get o,.get j,.get w,.has i]
theorem QB (l:s≠t) (f:gj s) (F:gj t) (a:R[s]? =ac (.j [ae 6,p])) (b:R[t]? =ac (.j [ae 6,q]))
  (h:aE k 205 [.l (an 7),.l (ag s),.l (ag t)] (m.stW R tr K dp lk) d [] st') (j:3≤k):aE (k+1) 204 [.l (an 7),.l (ag s),.l (ag t)] (m.stW R tr K dp lk) d [] st':=zo.of _ _ fun n i=>by
 have h:=h n i;have g:aZ n 203 [.l (an 1),.l (ag s)] (m.stW R tr K dp lk) (ag s) [] (m.stW R tr K dp lk):=l5 a (.un _) n (ao j i);have G:aZ n 203 [.l (an 1),.l (ag t)] (m.stW R tr K dp lk) (ag t) [] (m.stW R tr K dp lk):=l5 b (.un _) n (ao j i);replace a:=dH a;replace b:=dH b;have c:¬(s:Int)=t:=fun e=>l (dh e);have C:=f.a;have o:=F.a;exact aw 9126871040 [.C c,.call g,.call G,.C c,.C C,.C o,.get a,.get b,.call h]
theorem vo (h:aE k 204 [.l (an 7),.l (ag s),.l (ag t)] (m.stW R tr K dp lk) d [] st'):aE (k+1) 4921 [.l (an 7),.l (ag s),.l (ag t)] (m.stW R tr K dp lk) d [] st':=zo.of _ _ fun n a=>by
 have h:=h n a;exact aw 0 [.call h]
theorem KQ (I:aW R) (h:cq R s u) (c:cq R t v):aE 5 4921 [.l (an 7),.l (ag s),.l (ag t)] (m.stW R tr K dp lk) (aA (aM (s=t))) [] (m.stW R tr K dp lk):=vo (by
 by_cases e:s=t
 ·subst e;exact ak (cu rfl) (Qj.up (aY rfl))
 ·refine cE h.head fun a x d f w=>cE c.head fun b y g j i=>ak (cP e) ?_;exact B0 e (mJ (h.far I)) (mJ (c.far I)) d (.a w) g (.a i) (av f))
theorem Jb {js:List Nat} (h:∀j∈js,aE 5 4921 [.l (an 7),.l (ag s),.l (ag j)] (m.stW R tr K dp lk) (aA (res j)) [] (m.stW R tr K dp lk)) (t:tr.length≤1):
  aE 6 218 [.l (an 7),.l (ag s),.l (.j (js.map ag))] (m.stW R tr K dp lk) (aA (js.any res)) [] (m.stW R tr K dp lk):=zo.of _ _ fun n a=>by
 have G:=AA (m:=m) (R:=R) (K:=K) (dp:=dp) (lk:=lk) t n (bl a rfl);have l:=ma (g:=218) (b:=ah) [1] ag js (fun j=>if res j then ac (aA af) else ah) [(27,.l (an 7)),(29,.l (ag s)),(23,.l (.j (js.map ag))),(40,.l a4)] (m.stW R tr K dp lk) rfl rfl fun j c=>by
  have h:=h j c n a;cases r:res j<;>rw[r] at h<;>exact bq 0 [.call G,.call h]
 rw[rU] at l;cases e:js.any res<;>rw[e] at l<;>exact aw 0 [.sub l]
theorem Ma (l:List b) (p:b→Bool) (d:aj):l.findSome? (fun j=>if p j then ah else ac d)=if l.all p then ah else ac d:=by
 induction l with
 |nil=>rfl
 |cons a l i=>refine ak (xY) (ak m0 (ak i ?_));cases p a<;>rfl
theorem I' {I js:List Nat} (h:∀i∈I,aE 6 218 [.l (an 7),.l (ag i),.l (.j (js.map ag))] (m.stW R tr K dp lk) (aA (res i)) [] (m.stW R tr K dp lk)):
  aE 7 222 [.l (an 7),.l (.j (I.map ag)),.l (.j (js.map ag))] (m.stW R tr K dp lk) (aA (I.all res)) [] (m.stW R tr K dp lk):=zo.of _ _ fun n a=>by
 have l:=ma (g:=222) (b:=ah) [0] ag I (fun j=>if res j then ah else ac (aA ai)) [(27,.l (an 7)),(41,.l (.j (I.map ag))),(42,.l (.j (js.map ag)))] (m.stW R tr K dp lk) rfl rfl fun j c=>by
  have h:=h j c n a;cases r:res j<;>rw[r] at h<;>exact bq 0 [.call h]
 rw[Ma] at l;cases e:I.all res<;>rw[e] at l<;>exact aw 0 [.sub l]
theorem JZ:aE 1 202 [.l (an 7),.l (.j [ag 0,ag 0])] (m.stW R [p] K dp lk) (a4) [] (m.stW R [] K dp lk):=zo.of _ _ fun n b=>by
 obtain⟨_,_,_,⟨rfl,rfl,rfl⟩,w⟩:=wl (n:=n) (g:=202) [1] (fun _=>[(27,.l (an 7)),(33,.l (.j [ag 0,ag 0]))]) (fun l=>m.stW R l K dp lk) (fun l=>l=[p]∨l=[]) gK
  (fun f L s=>f=a'∧L=[(27,.l (an 7)),(33,.l (.j [ag 0,ag 0]))]∧s=m.stW R [] K dp lk) [p] (av rfl) (by show 1<100000;decide) rfl fun l h=>by
   rcases h with rfl|rfl
   ·refine .inl ⟨[],.next,.inr rfl,Nat.zero_lt_one,.inl rfl, ?_⟩;have a:(xB.del (bc p) (cF [p])).e=some (.none,.e (cF [])):=by
     show(if(cT (bc p) (cF [p])&&dA (bc p) (cF [p]))=true then some (aj.none,b0.e (hT (bc p) (cF [p]))) else none)=_
     refine ak (v' (List.mem_singleton.mpr rfl)) (ak zv ?_);rfl
    exact bq 4 [.I a]
   ·refine .inr (r2 .o _ _ rfl (?_) rfl rfl rfl);exact bq 0 []
 exact aw 2 [.sub w]
theorem Mz (I:aW R) {k O:List Nat} (o:bH R s k O) (p:bH R t k' d) (A:s≠t) (f:R[s]? =ac (.j [ae 6,.j (O.map ag)])) (g:R[t]? =ac (.j [ae 6,.j (d.map ag)])) (B:tr.length≤1):
  aE 8 221 [.l (an 7),.l (ag s),.l (ag t)] (m.stW R tr K dp lk) (aA ai) [] (m.stW R tr K dp lk):=zo.of _ _ fun n C=>by
 have q:∀{a b:Nat} {D E w z:List Nat},bH R a D w→bH R b E z→aZ n 222 [.l (an 7),.l (.j (w.map ag)),.l (.j (z.map ag))] (m.stW R tr K dp lk) (aA (w.all fun i=>z.any fun j=>aM (i=j))) [] (m.stW R tr K dp lk):=fun F G=>I' (fun i L=>Jb (fun j P=>by
  refine ay (F.to i L) fun u _ T=>ay (G.to j P) fun v _ U=> ?_;exact KQ I T U) B) n C
 have Q:=q o p;have V:=q p o;have N:((O.all fun i=>d.any fun j=>aM (i=j))&&d.all fun i=>O.any fun j=>aM (i=j))=false:=by
  refine nV.mpr fun c=> ?_;rw[fu,cH,cH] at c;have S:∀{l r:List Nat},(∀x∈l,(r.any fun j=>aM (x=j))=af)→∀x∈l,x∈r:=fun h x W=>by
   exact ay (t6.mp (h x W)) fun y X e=>dB e▸X
  have:O=d:=oI o.sorted p.sorted fun x=>⟨S c.1 x,S c.2 x⟩;subst this;exact A (o7 I.nd f g)
 replace f:=dH f;replace g:=dH g;generalize(O.all fun i=>d.any fun j=>aM (i=j))=x at*;generalize(d.all fun i=>O.any fun j=>aM (i=j))=y at*;induction x
 ·exact aw 1792 [.get f,.get g,.call Q]
 ·obtain rfl:y=false:=N;exact aw 14080 [.get f,.get g,.call Q,.call V]
theorem Kz (I:aW R) (v:bH R s k O) (w:bH R t k' x) (y:s≠t) (z:R[s]? =ac (.j [ae 6,.j (O.map ag)])) (j:R[t]? =ac (.j [ae 6,.j (x.map ag)])) (e:F.length≤lk) (a:lk≤20000):
  ∃f o,aE 9 205 [.l (an 7),.l (ag s),.l (ag t)] (m.stW R [] (hQ F) 0 lk) (aA ai) [] (m.stW R [] (hQ f) 0 o)∧f.length≤o∧o≤20000:=by
 have L:=O4 (p:=(s,t)) (F:=F);have i:=qp (p:=(s,t)) (l:=hQ F);by_cases r:(s,t)∈F
 ·have L:=aJ r▸L;have i:=L▸i;have j:eA (.e (e3 (hQ F))) (.j [ag s,ag t])=ac (aA ai):=by
   show(if cT (bc (s,t)) (e3 (hQ F)) then f1 (bc (s,t)) (e3 (hQ F)) else ah)=_
   rw[aJ tR,C',L];rfl
  refine er F lk (zo.of _ _ fun n d=> ?_) e a;exact aw 0 [.has i,.get j]
 ·have L:=aL r▸L;have i:=L▸i;by_cases q:20000≤lk
  ·have c:=gq.mpr q;refine er F lk (zo.of _ _ fun n d=> ?_) e a;have g:=Mh (m:=m) (R:=R) (tr:=[]) (K:=hQ F) (dp:=0) (lk:=lk) n (bl d rfl);exact aw 16 [.has i,.N c,.call g]
  ·have c:¬(20000:Int)≤(lk:Int):=fun h=>q (gq.mp h);have a:=f' q;refine er (F++[(s,t)]) (lk+1) (zo.of _ _ fun n d=> ?_) (by rw[bi];exact b3 e) a;have u:1≤n:=bl d rfl;have G:=AA (m:=m) (R:=R) (tr:=[]) (K:=hQ F) (dp:=0) (lk:=lk+1) (cA _) n u;have A:=Mz (m:=m) (tr:=[(s,t)]) (K:=hQ F) (dp:=1) (lk:=lk+1) I v w y z j (bv _) n d;have B:=JZ (m:=m) (R:=R) (p:=(s,t)) (K:=hQ F) (dp:=0) (lk:=lk+1) n u;have C:gW (.e (e3 (hQ F))) (.j [ag s,ag t]) (aA ai)=ac (.e (e3 (hQ (F++[(s,t)])))):=by
    have:=u6 (b:=ai) L (by unfold hQ;rw[aB];exact ao e (aD (gJ a) rfl));unfold hQ at this⊢;exact ak cd this
   exact aw 35918096 [.has i,.D c,.D c,.call G,.call A,.call B,.set C]
end
theorem Oe:aE 1 1360 [.l (an 8)] [a,b,c,d,e,f,g,h,⟨109,[]⟩] a4 [] [a,b,c,d,e,f,g,h,es 0]:=zo.of _ _ fun n i=>by
 exact aw 0 []
theorem Fv:aE 2 4920 [.l (an 7),.l (an 1),.l (ae 3)] [a,b,c,d,e,f,g,⟨198,[]⟩] a4 [] [a,b,c,d,e,f,g,mO (b1 (.e [])) [] [] 0 0 3 8 af a4,es 0]:=zo.of _ _ fun n i=>by
 have h:=Oe (a:=a) (b:=b) (c:=c) (d:=d) (e:=e) (f:=f) (g:=g) (h:=⟨198,[(11,.l (an 1)),(13,.l (ae 3)),(1,b1 (.e [])),(16,b1 (.e [])),(21,b1 (.e [])),(15,b1 (.c [])),(48,b1 (.c [])),(20,.l (ae 0)),(19,.l (ae 0))]⟩) n i;exact aw 0 [.call h]
theorem NQ {m:bh} (w:m.tw=ah):aE 3 200 [.l (an 2),.l (ae 3)] (m.st R) (an 7) [] (aF R::bF::mO (b1 (.e qh)) m.tr m.K m.dp m.a 1 3 m.tel a4::es m.N::⟨273,[]⟩::⟨257,[]⟩::⟨252,[]⟩::ve (ac ([],0))):=zo.of _ _ fun n i=>by
 have h:=Fv (a:=aF R) (b:=bF) (c:=mO (b1 (.e qh)) m.tr m.K m.dp m.a 1 3 m.tel a4) (d:=es m.N) (e:=⟨273,[]⟩) (f:=⟨257,[]⟩) (g:=⟨252,[]⟩) n i;obtain⟨t,k,D,l,N,T,_⟩:=m;subst w;exact aw 0 [.call h]
theorem KR {m:bh}:∃F lk,aE 4 201 [.l (an 2)] (m.st R) (an 7) [] ({m with tw:=ac (F,lk)}.st R)∧(d8 m.tw→d8 (ac (F,lk))):=by
 induction h:m.tw with
 |none=>
  refine cL ([]) 0 (zo.of _ _ fun n a=> ?_) (fun _=>⟨bv _,cA _⟩);have g:=NQ (R:=R) h n a;obtain⟨t,k,d,lk,N,T,_⟩:=m;subst h;exact aw 2 [.call g]
 |some w=>
  refine cL w.1 w.2 (zo.of _ _ fun n a=> ?_) id;obtain⟨t,k,d,lk,N,T,_⟩:=m;subst h;exact aw 0 []
theorem Fs {m:bh} (I:aW R) (g:bH R s k O) (e:bH R t k' i) (n:s≠t) (o:F.length≤lk) (p:lk≤20000):
  ∃f l,aE 11 4921 [.l (an 7),.l (ag s),.l (ag t)] ({m with tw:=ac (F,lk)}.st R) (aA ai) [] ({m with tw:=ac (f,l)}.st R)∧f.length≤l∧l≤20000:=by
 have B:(∃a x b y,R[s]? =ac (.j (ae a::x))∧ig (.j (ae a::x))∧R[t]? =ac (.j (ae b::y))∧ig (.j (ae b::y))∧((a=1∨a=2∨a=3∨a=4)∨(a=6∧(b=1∨b=2∨b=3∨b=4))))∨
   (R[s]? =ac (.j [ae 6,.j (O.map ag)])∧R[t]? =ac (.j [ae 6,.j (i.map ag)])):=by
  rcases g.c with⟨u,rfl,rfl,A⟩|⟨d,_⟩
  ·left;refine tb fun _ q=>cE A.head fun a x d C w=>bK e.head fun b y c z=>ay e.f fun r j D=>q ?_;rw[c] at j;injection j with j;subst j;exact⟨a,x,b,y,d,.a w,c,D,av C⟩
  ·rcases e.c with⟨v,rfl,rfl,E⟩|⟨c,_⟩
   ·left;exact cE E.head fun b y c z w=>CQ 6 _ b y d (.un _) c (.a w) (aI ⟨rfl,z⟩)
   ·exact aI ⟨d,c⟩
 rcases B with⟨a,x,b,y,d,G,c,L,N⟩|⟨d,c⟩
 ·exact⟨F,lk,(vo (B0 n (g.far I) (e.far I) d G c L N)).up (aY rfl),o,p⟩
 ·obtain⟨f,l,h,a,b⟩:=Kz I g e n d c o p;exact er f l (vo (m:=m) (QB n (g.far I) (e.far I) d c h (aY rfl))) a b
theorem Ko {m:bh} (I:aW R) (j:bH R s k O) (o:bH R t k' i) (w:d8 m.tw):
  ∃T,aE 12 4923 [.l (an 2),.l (ag s),.l (ag t)] (m.st R) (aA (aM (s=t))) [] ({m with tw:=T}.st R)∧d8 T:=by
 by_cases h:s=t
 ·subst h;refine ak (cu rfl) (bd m.tw (zo.of _ _ fun n a=> ?_) w);have c:(s:Int)=s:=rfl;exact aw 0 [.eq c]
 ·refine ak (cP h) ?_;obtain⟨F,L,b,g⟩:=KR (R:=R);refine bK (Fs (m:=m) I j o h (g w).1 (g w).2) fun f l d p=>bd (ac (f,l)) (zo.of _ _ fun n a=> ?_) p;have c:¬(s:Int)=t:=fun e=>h (dh e);have b:=b n (bl a rfl);have d:=d n a;exact aw 16 [.C c,.call b,.call d]
noncomputable def cN.U {j:Int} (h:¬i=j):cN X:=.z (o:=.k eG (ae i) (ae j)) (v:=af) (by show ac (!(i==j))=_;rw[c5.mpr h];rfl)
theorem Pu {m:bh} {s:Nat} (I:aW R) (o:bH R s k O) (p:bH R t k' i) (w:d8 m.tw) (q:m.N≤1000000):
  ∃T,aE 13 208 [.l (an 2),.l (ag s),.l (ag t)] (m.st R) (a4) [] ({m with tw:=T,N:=if m.tel=af∧s≠t then m.N+1 else m.N}.st R)∧d8 T:=by
 refine ay (Ko I o p w) fun T g u=> ?_;obtain⟨r,b,d,l,f,v,j⟩:=m;induction v with
 |false=>
  refine bd j (zo.of _ _ fun n h=> ?_) w;have G:=A0 (m:=⟨r,b,d,l,f,ai,j⟩) (R:=R) n (bl h rfl);refine ak (aL fun e=>hU e.1) ?_;exact aw 0 [.call G]
 |true=>
  refine bd T (zo.of _ _ fun n h=> ?_) u;have G:=A0 (m:=⟨r,b,d,l,f,af,j⟩) (R:=R) n (bl h rfl);have c:=(o.far I).a;have C:=(p.far I).a;have g:=g n h;by_cases a:s=t
  ·have g:=cu a▸g;refine ak (aL fun e=>e.2 a) ?_;exact aw 16 [.call G,.U c,.U C,.call g]
  ·have x:=rW (m:=⟨r,b,d,l,f,af,T⟩) (R:=R) q n (bl h rfl);rw[cP a] at g;refine ak (aJ ⟨rfl,a⟩) ?_;exact aw 65552 [.call G,.U c,.U C,.call g,.call x]
noncomputable def bf (E:List (Nat×Nat)):List aj:=E.map bc
noncomputable def eh (E:List (Nat×Nat)):Option Nat:=E.findIdx? fun p=>aM (2≤p.2)
noncomputable def gw (E:List (Nat×Nat)):Int:=match eh E with
 |some i=>(i:Int)
 |none=> -1
noncomputable def fj (E:List (Nat×Nat)) (n p:Nat):Option (Nat×Nat):=match eh E with
 |none=>E[p]?
 |some i=>if p<i then E[p]?else if n≤p+(E.length-i-1) then E[E.length+p-n]?else E[i]?
noncomputable abbrev jL (n:Nat):Int:=(n:Int)
theorem jN (N:Nat):f4 0 (N:Int)=(cv N).map ag:=by
 unfold f4;rw[Int.sub_zero,py];apply RE;intro k _;rw[ED]
theorem JI (h:cv N=d++i::r1):i=d.length∧i<N:=by
 have a:(cv N)[d.length]? =ac i:=by rw[h];simp
 have l:d.length<N:=by have:=aS gK h;simp at this;exact b6 (.c 1 (.a .b (.a .f .n1)) .g (.g 1 (.a .b .n1) .g)) rfl (a9 (cB this))
 rw[tZ l] at a;injection a with a;subst a;exact⟨rfl,l⟩
theorem la (E:List a):f4 0 (jL E.length)=E.zipIdx.map fun p=>ag p.2:=by
 rw[jN,List.range_eq_range',←List.zipIdx_map_snd 0 E,eg];rfl
theorem nH {E:List a} (h:j∈E.zipIdx):E[j.2]? =ac j.1:=List.mem_zipIdx_iff_getElem?.mp h
section
noncomputable def cN.G {ds:List aj} (e:ds.length=k) (h:k≤16777216):cN a:=.F (o:=pT (.j ds)) (v:=ag k) (by subst e;exact aJ h)
noncomputable def cN.x {j:Nat} (h:(i==j)=b):cN a:=.z (o:=.k a6 (ag i) (ag j)) (v:=b) (by subst h;show ac (aM _)=_;rw[n7.mpr Eo];rfl)
noncomputable def cN.M {j:Nat} (h:(i==j)=b):cN a:=.z (o:=.k eG (ag i) (ag j)) (v:= !b) (by subst h;show ac (!aM _)=_;rw[n7.mpr Eo];rfl)
noncomputable def cN.A {j:Nat} (h:aM (i<j)=b):cN a:=.z (o:=.k eU (ag i) (ag j)) (v:=b) (by subst h;show ac (aM _)=_;rw[n7.mpr g5])
noncomputable def cN.y {j:Nat} (h:aM (j<i)=b):cN a:=.z (o:=.k d4 (ag i) (ag j)) (v:=b) (by subst h;show ac (aM _)=_;rw[n7.mpr g5])
noncomputable def cN.W {j:Nat} (h:aM (i≤j)=b):cN a:=.z (o:=.k oq (ag i) (ag j)) (v:=b) (by subst h;show ac (aM _)=_;rw[n7.mpr gq])
noncomputable def cN.J {j:Nat} (h:aM (j≤i)=b):cN a:=.z (o:=.k jl (ag i) (ag j)) (v:=b) (by subst h;show ac (aM _)=_;rw[n7.mpr gq])
end
section
theorem ec:(bf E).length=E.length:=aB _
theorem hN {i:Nat} (h:E[i]? =ac q):(bf E)[i]? =ac (bc q):=by unfold bf;rw[dX,h];rfl
theorem nt (h:R[t]? =ac r):eA (.j R) (ag t)=ac r:=dH h
theorem va (h:E.length≤100000):aE 1 261 [.l (.j (bf E))] Y (ag (E.filter fun p=>p.2==0).length) [] Y:=zo.of _ _ fun n a=>by
 have C:=fI (n:=n) (g:=261) [0] 0 57 bc E (fun q=>if q.2==0 then[bc q] else[]) [(8,.l (.j (bf E)))] Y fun q b=>by
  cases c:(q.2==0)<;>exact cZ 1 [.x c]
 rw[ng] at C;exact aw 0 [.le (m:=b4) (ao (a9 ec) (aD h rfl)),.sub C,.p (ds:=(E.filter fun p=>p.2==0).map bc) (aB _) (ao (hY _ E) (aD h rfl))]
theorem vY:(E.zipIdx.findSome? fun p=>if aM (2≤p.1.2) then ac (ag p.2) else ah)=(eh E).map ag:=by
 unfold eh;rw[List.findIdx?_eq_findSome?_zipIdx,List.map_findSome?];congr 1;funext p;show _=yo ag (if _ then _ else _)
 split<;>rfl
theorem sz (f:X=.j (bf E)∨X=.c (bf E)) (h:E.length≤100000):aE 1 262 [.l X] Y (ae (gw E)) [] Y:=zo.of _ _ fun n i=>by
 have d:E.length≤16777216:=aD h rfl;rcases f with rfl|rfl
 ·have l:=ma (n:=n) (g:=262) (b:=none) [0] (fun p=>ag p.2) E.zipIdx (fun p=>if decide (2≤p.1.2) then some (ag p.2) else none) [(8,.l (.j (bf E)))] Y rfl rfl fun j a=>by
   cases c:aM (2≤j.1.2)<;>exact bq 16 [.get (nt (hN (nH a))),.J c]
  rw[vY,←la] at l;unfold gw;cases e:eh E<;>rw[e] at l<;>exact aw 0 [.G ec d,.le h,.sub l]
 ·have l:=ma (n:=n) (g:=262) (b:=ah) [0] (fun p=>ag p.2) E.zipIdx (fun p=>if aM (2≤p.1.2) then ac (ag p.2) else ah) [(8,.l (.c (bf E)))] Y rfl rfl fun j a=>by
   cases c:aM (2≤j.1.2)<;>exact bq 16 [.get (dH (hN (nH a))),.J c]
  rw[vY,←la] at l;unfold gw;cases e:eh E<;>rw[e] at l<;>exact aw 0 [.p ec d,.le h,.sub l]
theorem Ch (h:eh E=ac i):i<E.length∧(∀j q,j<i→E[j]? =ac q→q.2<2)∧∃q,E[i]? =ac q∧2≤q.2:=by
 refine ay (QT.mp h) fun a b c=>⟨a,fun j q d f=> ?_,E[i],cS a,dB b⟩;have:=c j d;obtain⟨g,e⟩:=hy.mp f;rw[e] at this;exact f' fun h=>this (cu h)
theorem C0 {k p:Nat} (l:E.length≤100000) (h:fj E k p=ac q) (f:p<k):aE 2 263 [.l (.c (bf E)),.l (ag k),.l (ag p)] Y (bc q) [] Y:=zo.of _ _ fun n d=>by
 have b:E.length≤16777216:=aD l rfl;have g:=sz (Y:=Y) (aI rfl) l n d;unfold fj at h;unfold gw at g;induction o:eh E with
 |none=>
  rw[o] at h g;exact aw 16 [.call g,.row (hN h)]
 |some i=>
  rw[o] at h g;dsimp only at h;have C:aM (i<0)=false:=rfl;by_cases a:p<i
  ·have h:=aJ a▸h;exact aw 0 [.call g,.A C,.A (cu a),.row (hN h)]
  ·have h:=aL a▸h;have e:=(Ch o).1;have Q:((E.length-i-1:Nat):Int)=(E.length:Int)-i-1:=(aS EU (S1 ..)).trans ((yi e).trans (Int.sub_sub (E.length:Int) i 1).symm);by_cases c:k≤p+(E.length-i-1)
   ·have h:=aJ c▸h;have G:eA (.c (bf E)) (ae ((E.length:Int)-((k:Int)-p)))=ac (bc q):=(aS (fun z=>eA (.c (bf E)) (ae z)) ((aS ((E.length:Int)+·) (Int.neg_sub ..)).trans ((Int.add_sub_assoc ..).symm.trans (yi (ao c (ao (a9 (f_ ..)) (dc (ao (it ..) (it ..)) p)))).symm))).trans (dH (hN h));exact aw 33751040 [.call g,.A C,.A (cP a),.p ec b,.N (show(k:Int)-((E.length:Int)-i-1)≤(p:Int) from xT (Q▸gq.mpr c)),.p ec b,.get G]
   ·have h:=aL c▸h;exact aw 196608 [.call g,.A C,.A (cP a),.p ec b,.D (show¬(k:Int)-((E.length:Int)-i-1)≤(p:Int) from fun z=>c (gq.mp (lQ (Int.le_add_of_sub_right_le z) (yk (aS ((p:Int)+·) Q.symm))))),.row (hN h)]
theorem td (h:E.length≤100000) (a:∀q∈E,q.2<3):aE 1 266 [.l (.j (bf E))] Y (aA ai) [] Y:=zo.of _ _ fun n d=>by
 have c:=fI (n:=n) (g:=266) [0] 0 56 bc E (fun _=>[]) [(8,.l (.j (bf E)))] Y fun q b=>by
  exact cZ 1 [.x (c5.mpr (hZ (a q b)))]
 rw[List.flatMap_eq_nil_iff.mpr fun _ _=>rfl] at c;exact aw 0 [.le (m:=b4) (ao (a9 ec) (aD h rfl)),.sub c]
end
noncomputable def na (A B:List (Nat×Nat)):Bool:= !aM ((A.filter fun p=>p.2==0).length<(B.filter fun p=>p.2==0).length)&&((eh B).isSome||((eh A).isNone&&aM (A.length≤B.length)))
theorem Cs {Y:ar} {A:List (Nat×Nat)} (f:A.length≤100000) (g:B.length≤100000):aE 2 264 [.l (.j (bf A)),.l (.j (bf B))] Y (aA (na A B)) [] Y:=zo.of _ _ fun n h=>by
 have a:=va (Y:=Y) f n h;have e:=va (Y:=Y) g n h;have d:=sz (Y:=Y) (av rfl) f n h;have b:=sz (Y:=Y) (av rfl) g n h;unfold gw at d b;unfold na;generalize(A.filter fun p=>p.2==0).length=x at*;generalize(B.filter fun p=>p.2==0).length=y at*;have c (i:Nat):aM (i<0)=false:=rfl;have l (i:Nat):aM (0≤i)=true:=rfl;cases C:aM (x<y)
 ·induction j:eh B with
  |some i=>
   have b:=j▸b;exact aw 0 [.call a,.call e,.A C,.call b,.J (l i)]
  |none=>
   rw[j] at b;induction k:eh A with
   |some i=>
    have d:=k▸d;exact aw 65536 [.call a,.call e,.A C,.call b,.call d,.A (c i)]
   |none=>
    rw[k] at d;cases m:aM (A.length≤B.length)<;>exact aw 2162688 [.call a,.call e,.A C,.call b,.call d,.G ec (aD f rfl),.G ec (aD g rfl),.W m]
 ·exact aw 0 [.call a,.call e,.A C]
theorem Kf (I:aW R) (h:bH R t k O) (b:R.length≤1000000)
  {G:Prop} (q:∀t' r i,aE 5 172 [.l (an 0),.l (ag t)] (aF R::J) (ag t') [] (aF r::J)→aW r→bL R r→r.length≤R.length+1→bH r t' (cM (k++[8])) i→G):G:=by
 refine sI (J:=J) (qs:=[(t,k,O),(4,[8],[4])]) I (aI rfl) (fun q a=>(eS.mp a).elim (fun e=>e▸h) fun a=>bW.mp a▸bH.d I I.un.1) (fun e=>(by injection e)) b fun t' r i c d=>q t' r i (zo.of _ _ fun n f=> ?_) d;exact aw 0 [.call (c n f)]
noncomputable def fL (k:List Nat) (mk:Nat):List Nat:=if mk=1 then cM (k++[8]) else k
theorem tF (I:aW R) {O:List Nat} (h:bH R t k O) (m:mk<3) (g:R.length≤1000000)
  {G:Prop} (q:∀t' r i,aE 6 233 [.l (an 0),.l (bc (t,mk))] (aF R::J) (ag t') [] (aF r::J)→aW r→bL R r→r.length≤R.length+1→bH r t' (fL k mk) i→G):G:=by
 by_cases e:mk=1
 ·refine Kf (J:=J) I h g fun t' r i j a b c d=> ?_;subst e;refine q t' r i (zo.of _ _ fun n f=> ?_) a b c d;exact aw 5 [.call (j n f)]
 ·refine q t R O (zo.of _ _ fun n f=> ?_) I .f (fQ _) (by unfold fL;refine ak (aL e) ?_;exact h);exact aw 17 [.x (c5.mpr (hZ m)),.x (c5.mpr e)]
inductive b5 (R:List aj):List (Nat×Nat)→List (List Nat×Nat)→Prop
 |nil:b5 R [] []
 |cons {e mk:Nat} {k O:List Nat} {E:List (Nat×Nat)} {l:List (List Nat×Nat)}:bH R e k O→mk<3→b5 R E l→b5 R ((e,mk)::E) ((k,mk)::l)
open b5 renaming cons→gQ,nil→g'
theorem b5.mono (x:bL R r) (h:b5 R E l):b5 r E l:=h.rec g' fun a b _ i=>gQ (a.mono x) b i
theorem b5.len (h:b5 R E l):E.length=l.length:=by induction h with|nil=>rfl|cons _ _ _ i=>simp[i]
theorem b5.app (h:b5 R E l) (h':b5 R F r):b5 R (E++F) (l++r):=h.rec h' fun a b _ i=>gQ a b i
theorem b5.marks (h:b5 R E l):E.map (·.2)=l.map (·.2):=by induction h with|nil=>rfl|cons _ _ _ i=>simp[i]
theorem b5.at (h:b5 R E l) {i:Nat} (e:E[i]? =ac q):∃k O,l[i]? =ac (k,q.2)∧bH R q.1 k O:=by
 induction h generalizing i with
 |nil=>simp at e
 |cons a b _ I=>
  induction i using ir with
  |zero=>simp at e;subst e;exact⟨_,_,rfl,a⟩
  |succ i=>simp at e;exact I e
noncomputable def fF (l:List (List Nat×Nat)):List (List Nat×Nat):=l.map fun p=>(fL p.1 p.2,p.2)
theorem Hl {N:Nat→Prop} {V:a→List aj} {F:a→au} {S:a→ar} {I:List p→a→Prop}
  (s:∀D j r1 x,l=D++j::r1→I D x→∀b:Prop,(∀X vs,I (D++[j]) X→V X=V x++vs→(∀n,N n→iD (dw bw (aZ n) k) (sY (eY bw k) E t i (f j) (F x) (S x)) vs (F X) (S X))→b)→b) {G:Prop}:
  ∀r d x,l=d++r→I d x→(∀y us,I l y→V y=V x++us→(∀n,N n→∀(Z:d1→Prop) (K:List aj→au→ar→aT),aQ (dw bw (aZ n) k) Z (K us (F y) (S y))→aQ (dw bw (aZ n) k) Z (qe (eY bw k) E t i (r.map f) (F x) (S x) K))→G)→G:=by
 intro r;induction r with
 |nil=>exact fun d x e h q=>q x [] (by rw[e,c8];exact h) (c8 _).symm fun _ _ _ _ z=>z
 |cons j r g=>
  exact fun d x e h q=>s d j r x e h _ fun X vs m v T=>g _ X (e.trans (rk ..)) m fun y us o u w=>
   q y (vs++us) o (by rw[u,v,ef]) fun n c Z K z=>p8 ((T n c).wp (w n c Z _ z))
theorem qJ {N:Nat→Prop} (p:List Nat) (i k:Nat) (f:c→aj) (l:List c) (V:a→List aj) (F:a→au) (S:a→ar) (I:List c→a→Prop) (X:a) (m:I [] X) (o:V X=[])
  (s:∀d j r1 x,l=d++j::r1→I d x→∀e:Prop,(∀b vs,I (d++[j]) b→V b=V x++vs→(∀n,N n→iD (dw bw (aZ n) k) (kx g p i k (f j) (F x) (S x)) vs (F b) (S b))→e)→e)
  {G:Prop} (q:∀x,I l x→(∀n,N n→cc bw (aZ n) (eu g p i k (l.map f) (F X) (S X)) (.h (.c (V x))) (F x) (S x))→G):G:=Hl s l [] X rfl m fun x U h u w=>q x h fun n r=>w n r _ _ (aS (fun v=>(cR.h (.c v),F x,S x)) (u.trans (by refine ak o ?_;rfl)).symm)
theorem kV {N:Nat→Prop} {o m:Type} (p:List Nat) (f:o→aj) (l:List o) (F:m→au) (S:m→ar) (I:List o→m→Prop) (k:m) (i:I [] k) (t:kw g p=af)
  (s:∀d j r1 x,l=d++j::r1→I d x→∀r:Prop,(∀X,I (d++[j]) X→gy b (l.map f) (S X)=af→(∀n,N n→ff n g p (hn (F k)) (f j) (F x) (S x) a' (F X) (S X))→r)→r)
  {G:Prop} (q:∀x,I l x→(∀n,N n→cc bw (aZ n) (dS g p b (l.map f) (F k) (S k)) a' (F x) (S x))→G):G:=by
 refine bK (tG p f l F S I (fun u x=>u=a'∧I l x) k i t (fun d j r1 x e h=>s d j r1 x e h _ fun X a b c=>cL X a' c (av ⟨av rfl,a,b⟩)) fun x h=>⟨rfl,h⟩) fun _ x y w=> ?_;obtain⟨rfl,h⟩:=y;exact q x h w
def ph (R:List aj) (E:List (Nat×Nat)) (l:List (List Nat×Nat)) (d:List (Nat×Nat)) (x:List (Nat×Nat)×List aj):Prop:=
 ∀h:Prop,(∀D a,l=D++a→aW x.2→bL R x.2→x.2.length≤R.length+d.length→b5 x.2 x.1 (fF D)→(∀r,E=d++r→b5 R r a)→h)→h
section
theorem ph.f (I:aW R) (h:b5 R E l):ph R E l [] ([],R):=fun _ q=>q [] l rfl I .f (bv _) g' fun r e=>(show E=r from e)▸h
theorem ph.fin (h:ph R E l E x) {G:Prop} (q:aW x.2→bL R x.2→x.2.length≤R.length+E.length→b5 x.2 x.1 (fF l)→G):G:=h _ fun D g e a b c d r=>by
 cases r [] (c8 _).symm;rw[c8] at e;exact q a b c (e▸d)
theorem ph.step (o:ph R E l d x) (e:E=d++j::r1) (s:R.length+E.length≤1000000)
  {G:Prop} (q:∀K O,aW x.2→bH x.2 j.1 K O→j.2<3→x.2.length≤1000000→(∀t' a i,aW a→bL x.2 a→a.length≤x.2.length+1→bH a t' (fL K j.2) i→ph R E l (d++[j]) (x.1++[(t',j.2)],a))→G):G:=o _ fun D b u I X h k c=>by
 cases c _ e with
 | @cons t M K O _ b p m _=>
 refine q K O I (p.mono X) m (ao h (ao (cj (by rw[e,bi];exact bu _ _) _) s)) fun t' a i v g w P=> ?_;refine fun _ q=>q (D++[(K,M)]) b (by rw[u,ef];rfl) v (X.trans g) (ao w (by rw[bi];exact b3 h)) ?_ fun r n=> ?_
 ·unfold fF;rw[cd];exact(k.mono g).app (gQ P m g')
 ·rw[ef] at n;cases c _ n;assumption
theorem xn {N:Nat→Prop} {g:Nat} (p:List Nat) {L:au} (I:aW R) (h:b5 R E l) (z:R.length+E.length≤1000000)
  (s:∀f t mk K O,aW f→bH f t K O→mk<3→f.length≤1000000→∀o:Prop,(∀t' r u,(∀n,N n→iD (dw bw (aZ n) k) (kx g p i k (bc (t,mk)) L (aF f::J)) [W (t',mk)] L (aF r::J))→aW r→bL f r→r.length≤f.length+1→bH r t' (fL K mk) u→o)→o)
  {G:Prop} (q:∀y r,aW r→bL R r→r.length≤R.length+E.length→b5 r y (fF l)→(∀n,N n→cc bw (aZ n) (eu g p i k (bf E) L (aF R::J)) (.h (.c (y.map W))) L (aF r::J))→G):G:=
 qJ p i k bc E (fun x:List (Nat×Nat)×List aj=>x.1.map W) (fun _=>L) (fun x=>aF x.2::J) (ph R E l) ([],R) (.f I h) rfl
  (fun D j S x e v o q=>v.step e z fun K O A P m B C=>s x.2 j.1 j.2 K O A P m B _ fun t' r u T F X M Q=>q _ [W (t',j.2)] (C t' r u F X M Q) cd T)
  fun x v w=>v.fin fun a b c d=>q x.1 x.2 a b c d w
end
noncomputable def i8 (p:Nat×Nat) (l:List (Nat×Nat)):List (Nat×Nat):=if p∈l then l else l++[p]
theorem JP:q∈i8 p l↔q=p∨q∈l:=by
 unfold i8;split
 ·rename_i h;exact⟨aI,fun a=>a.elim (fun e=>e▸h) id⟩
 ·simp[or_comm]
theorem H9 (h:l.Nodup):(i8 p l).Nodup:=by
 unfold i8;split
 ·exact h
 ·rename_i i;exact ke.mpr ⟨h,by simp,fun a c b d e=>i (by rw[bW.mp d] at e;exact e▸c)⟩
theorem JS:p∈l→gd (bc p) (ae 1) (cF l)=cF l:=by
 induction l with
 |nil=>exact fun h=>nomatch h
 |cons q l i=>
  refine fun h=>((ak mm ?_):(if aj.beq (bc q) (bc p)=af then(bc q,ae 1)::cF l else(bc q,ae 1)::gd (bc p) (ae 1) (cF l))=_)
  by_cases e:q=p
  ·exact aJ (cu e)
  ·exact(aL (mt dB e)).trans (aS _ (i ((eS.mp h).resolve_left fun E=>e E.symm)))
theorem O7 (a:l.length≤1000000):gW (.e (cF l)) (bc p) (ae 1)=ac (.e (cF (i8 p l))):=by
 unfold i8;split
 ·rename_i h;show(if cT _ _∧(cF l).length≤b4 then ac (b0.e (gd _ _ _)) else ah)=_
  rw[aJ ⟨sy,by unfold cF;rw[aB];exact a⟩,JS h]
 ·rename_i h;exact w2 h a
theorem CC (a b:Nat):f4 (a:Int) ((b:Int)+1)=((cv (b+1-a)).map (a+·)).map ag:=by
 unfold f4;rw[show((b:Int)+1-a).toNat=b+1-a from rr (b+1) a,eg];rfl
noncomputable def jz (A B:List (Nat×Nat)) (n p:Nat):Nat×Nat:=(((fj A n p).getD (0,0)).1,((fj B n p).getD (0,0)).1)
noncomputable def d_ (A B:List (Nat×Nat)):Nat:=if(eh A).isSome then A.length+B.length else A.length
noncomputable def gh (A:List (Nat×Nat)):Nat:=(A.filter fun p=>p.2==0).length
noncomputable def jQ (b:Bool) (c:b0):il:=match b with
 |true=>bE c
 |false=>.l c.frz
noncomputable def hM (l P:List (Nat×Nat)):List (Nat×Nat):=l.foldl (fun P q=>i8 q P) P
theorem Mq:∀{l P:List (Nat×Nat)},q∈hM l P↔q∈P∨q∈l:=by
 intro l;induction l with
 |nil=>
  intro P;exact(or_iff_left kh).symm
 |cons a l i=>
  intro P;show q∈hM l (i8 a P)↔_;rw[i,JP,eS,or_comm (a:=q=a),or_assoc]
theorem L7:∀{l P:List (Nat×Nat)},P.Nodup→(hM l P).Nodup
 |[],_,h=>h
 |a::l,P,h=>L7 (l:=l) (H9 h)
theorem IU:(i8 q P).length≤P.length+1:=by
 unfold i8;split
 ·exact fQ _
 ·rw[bi];exact bv _
theorem F3:hM (l++[q]) P=i8 q (hM l P):=re
noncomputable def mq (A B:List (Nat×Nat)) (k:Nat):List (Nat×Nat):=(cv k).map (jz A B k)
noncomputable def mu (A B:List (Nat×Nat)) (T:Nat):au:=[(1,.l (an 0)),(39,.l (.j (bf A))),(5,.l (.j (bf B))),(24,.l (ag T))]
noncomputable def mI (A B a b:List (Nat×Nat)) (T:Nat) (x:List (Nat×Nat)×Bool):au:=mu A B T++[(68,jQ x.2 (.c (bf a))),(69,jQ x.2 (.c (bf b))),(10,bE (.e (cF x.1)))]
section
theorem NV (z:a.length≤100000) (Z:c.length≤100000) (s:∀p,p<k→(fj a k p).isSome=af∧(fj c k p).isSome=af) (t:k≤100) (P:List (Nat×Nat)) (u:P.length≤20000) (b:Bool)
  {G:Prop} (q:∀b',(hM (mq a c k) P).length≤P.length+100→(∀n,6≤n→cc bw (aZ n) (dS 265 [4,0] ah (f4 0 (jL k)) (mI A B a c T (P,b)++[(65,.l (ag k))]) Y) a' (mI A B a c T (hM (mq a c k) P,b')++[(65,.l (ag k))]) Y)→G):G:=by
 refine kV (N:=(6≤·)) (g:=265) (b:=ah) [4,0] ag (cv k) (fun x=>mI A B a c T x++[(65,.l (ag k))]) (fun _=>Y)
  (fun d x=>x.1=hM (d.map (jz a c k)) P∧x.1.length≤P.length+d.length) (P,b) ⟨rfl,bv _⟩ rfl
  (fun D p r x e f M q=> ?_) fun x h w=> ?_
 ·refine(JI e).elim fun C E=> ?_;have o:=s p E;refine(mW.mp o.1).elim fun Q i=>(mW.mp o.2).elim fun j m=> ?_;have l:x.1.length≤20100:=by have:=f.2;exact e6 (.c 1 .b (.n 100) (.c 1 .f (.n 20000) (.c 1 .g (.a .f .j) (.c 1 .j .l (.c 1 (.a .l .n1) .b (.g 1 .g (.n 20100))))))) rfl t u f.2 (a9 (cB C)) E
  refine q (i8 (Q.1,j.1) x.1,ai) ⟨?_,ao IU ?_⟩ rfl fun n v=> ?_
  ·rw[cd];show _=hM (_++[jz a c k p]) P;rw[F3,show jz a c k p=(Q.1,j.1) by unfold jz;rw[i,m];rfl];exact aS (i8 _) f.1
  ·rw[bi];exact b3 f.2
  ·have F:=C0 (Y:=Y) z i E n (bl v rfl);have I:=C0 (Y:=Y) Z m E n (bl v rfl);have L:=O7 (p:=(Q.1,j.1)) (aD l rfl);clear l f o i m e s q u;obtain⟨R,b⟩:=x;induction b<;>exact bq 272 [.call F,.call I,.set L]
 ·rw[jN] at q;have y:=h.2;rw[gm] at y;have e:x=(hM (mq a c k) P,x.2):=uu h.1 rfl;exact q x.2 (h.1▸ao y (cj t _)) (e▸w)
theorem Px (z:a.length≤100000) (Z:b.length≤100000) {l:List Nat} (j:∀k∈l,k≤100∧∀p,p<k→(fj a k p).isSome=af∧(fj b k p).isSome=af) (c:l.length≤101)
  {G:Prop} (q:∀b',(hM (l.flatMap (mq a b)) []).length≤20000→(∀n,6≤n→cc bw (aZ n) (dS 265 [4] ah (l.map ag) (mI A B a b T ([],af)) Y) a' (mI A B a b T (hM (l.flatMap (mq a b)) [],b')) Y)→G):G:=by
 refine kV [4] ag l (mI A B a b T) (fun _=>Y)
  (fun d x=>x.1=hM (d.flatMap (mq a b)) []∧x.1.length≤d.length*100) ([],af) ⟨rfl,cA _⟩ rfl
  (fun D k r x e f u q=> ?_) fun x h w=>q x.2 (h.1▸ao h.2 (aD (pq _ c) rfl)) ((show x=(hM (l.flatMap (mq a b)) [],x.2) from uu h.1 rfl)▸w)
 have o:=j k (eO e);have m:D.length≤101:=by rw[e,bi] at c;exact ao (bu _ _) c
 refine NV (T:=T) (A:=A) (B:=B) (Y:=Y) z Z o.2 o.1 x.1 (ao f.2 (aD (pq _ m) rfl)) x.2 fun b' s g=>q (hM (mq a b k) x.1,b') ⟨?_, ?_⟩ rfl fun n t=> ?_
 ·rw[f.1];unfold hM;rw[DQ,re,DE]
 ·rw[bi,show(D.length+[k].length)*100=D.length*100+100 from SV _ _];exact ao s (dc f.2 _)
 ·have g:=g n t;have i:k≤100000:=aD o.1 rfl;have i:(wk.le k 100000).e=ac true:=by show ac (aM _)=_;rw[cu i]
  exact bq 0 [.z i,.sub g]
theorem E2 (h:6≤n) (z:A.length≤50) (Z:B.length≤50) (u:P.length≤20000)
  (C:cc bw (aZ n) (eu 265 [1] 0 59 (bf A) (mu A B (d_ A B)) Y) (.h (.c (a.map bc))) (mu A B (d_ A B)) S)
  (d:cc bw (aZ n) (eu 265 [2] 0 59 (bf B) (mu A B (d_ A B)++[(68,bE (.c (bf a)))]) S) (.h (.c (k.map bc))) (mu A B (d_ A B)++[(68,bE (.c (bf a)))]) s)
  (w:cc bw (aZ n) (dS 265 [4] ah (f4 (jL (gh A)) (jL (d_ A B)+1)) (mI A B a k (d_ A B) ([],af)) s) a' (mI A B a k (d_ A B) (P,b)) s):
  aZ (n+1) 265 [.l (an 0),.l (.j (bf A)),.l (.j (bf B))] Y (.c (P.map bc)) [] s:=by
 have f:=sz (Y:=Y) (av rfl) (aD z rfl) n (bl h rfl);have l:=va (Y:=s) (aD z rfl) n (bl h rfl);have c:=fI (n:=n) (g:=265) [5] 0 58 bc P (fun q=>[bc q]) (mu A B (d_ A B)++[(68,jQ b (.c (bf a))),(69,jQ b (.c (bf k))),(10,.l (.e (cF P)))]) s fun q v=>by exact cZ 0 []
 have e:P.map bc=(cF P).map (·.1):=by unfold cF;rw[eg];rfl
 have c:=cB kd▸c;have c:=e▸c;refine ak e ?_;have m:((cF P).map (·.1)).length≤b4:=by rw[←e,aB];exact aD u rfl
 have p:(bf A).length≤b4:=ao (a9 ec) (aD z rfl);have r:(bf B).length≤b4:=ao (a9 ec) (aD Z rfl);have t:gh A≤50:=ao (hY _ _) z;unfold d_ at C d w c;unfold gw at f;induction o:eh A with
 |none=>
  rw[o] at f C d w c;have I:gh A+(A.length+1)≤100000:=aD (dd t (b3 z)) rfl;exact aw 268435472 [.call f,.G ec (aD z rfl),.le p,.sub C,.le r,.sub d,.call l,.le I,.sub w,.le m,.sub c]
 |some i=>
  rw[o] at f C d w c;have I:gh A+(A.length+B.length+1)≤100000:=aD (dd t (b3 (dd z Z))) rfl;exact aw 68719542272 [.call f,.A (i:=i) (j:=0) rfl,.G ec (aD z rfl),.G ec (aD Z rfl),.le p,.sub C,.le r,.sub d,.call l,.le I,.sub w,.le m,.sub c]
end
theorem FW {R:List aj} {J:ar} (I:aW R) (S:b5 R A κ) (U:b5 R B μ) (Z:A.length≤50) (F:B.length≤50) (V:R.length≤900000)
  (o:∀f u:List (Nat×Nat),f.map (·.2)=A.map (·.2)→u.map (·.2)=B.map (·.2)→∀k p,gh A≤k→k≤d_ A B→p<k→(fj f k p).isSome=af∧(fj u k p).isSome=af)
  {G:Prop} (q:∀(f u P:List (Nat×Nat)) (r:List aj),aE 7 265 [.l (an 0),.l (.j (bf A)),.l (.j (bf B))] (aF R::J) (.c (P.map bc)) [] (aF r::J)→aW r→bL R r→r.length≤R.length+A.length+B.length→b5 r f (fF κ)→b5 r u (fF μ)→P.Nodup→
   (∀q,q∈P↔∃k p,gh A≤k∧k≤d_ A B∧p<k∧q=jz f u k p)→G):G:=by
 have Y {g i k:Nat} {L:au} {p:List Nat} (h:∀n d t m r s,6≤n→aZ n 233 [.l (an 0),.l (bc (t,m))] (aF d::J) (ag s) [] (aF r::J)→iD (dw bw (aZ n) k) (kx g p i k (bc (t,m)) L (aF d::J)) [bc (s,m)] L (aF r::J)) d t m W O (N:aW d) (E:bH d t W O) (ν:m<3) (l:d.length≤1000000) (α:Prop) (q:∀s r Q,(∀n,6≤n→iD (dw bw (aZ n) k) (kx g p i k (bc (t,m)) L (aF d::J)) [bc (s,m)] L (aF r::J))→aW r→bL d r→r.length≤d.length+1→bH r s (fL W m) Q→α):α:=
  tF N E ν l fun s r Q ξ=>q s r Q fun n v=>h n d t m r s v (ξ n v)
 refine xn (g:=265) (i:=0) (k:=59) [1] (L:=mu A B (d_ A B)) I S (dd V (ao Z (show 50≤100000 by decide))) (Y fun n d t m r s v h=>by exact cZ 0 [.call h]) fun f d N x β γ C=>xn (g:=265) (i:=0) (k:=59) [2] (L:=mu A B (d_ A B)++[(68,bE (.c (bf f)))]) N (U.mono x) (ao (dd (ao β (dd V Z)) F) (by decide:900000+50+50≤1000000)) (Y fun n d t m r s v h=>by exact cZ 0 [.call h]) fun u δ ο ε π ζ ρ=> ?_;have M:f.map (·.2)=A.map (·.2):=by rw[γ.marks,S.marks];exact eg ..
 have η:u.map (·.2)=B.map (·.2):=by rw[ζ.marks,U.marks];exact eg ..
 have θ {X y:List (Nat×Nat)} (h:X.map (·.2)=y.map (·.2)) (σ:y.length≤50):X.length≤100000:=by rw[←aB,h,aB];exact aD σ rfl
 have ι:d_ A B≤100:=by unfold d_;split;exact dd Z F;exact aD Z rfl
 have D:∀k,k∈(cv (d_ A B+1-gh A)).map (gh A+·)↔gh A≤k∧k≤d_ A B:=fun k=>by
  rw[cr];exact⟨fun z=>ay z fun j h e=>e▸⟨bu _ _,iW (Nat.add_lt_of_lt_sub' (hB.mp h))⟩,fun h=>bd (k-gh A) (hB.mpr (Nat.sub_lt_sub_right h.1 (t4 h.2))) (rb h.1)⟩
 refine Px (A:=A) (B:=B) (T:=d_ A B) (Y:=aF δ::J) (θ M Z) (θ η F) (fun k h=>⟨ao ((D k).mp h).2 ι,fun p E=>o f u M η k p ((D k).mp h).1 ((D k).mp h).2 E⟩)
  (by rw[aB,gm];exact ao (it _ _) (b3 ι)) fun τ l w=> ?_
 rw[←CC] at w;refine q f u _ δ (zo.of _ _ fun n v=>E2 v Z F l (C n v) (ρ n v) (w n v)) ο (x.trans ε) (ao π (dc β _)) (γ.mono ε) ζ (L7 h7) fun q=> ?_;rw[Mq,or_iff_right kh,pz]
 exact⟨fun z=>ay z fun k h e=>ay (cr.mp e) fun p E e=>hK k p (((D k).mp h).1) (((D k).mp h).2) (hB.mp E) e.symm,
  fun z=>ia z fun k p a b c e=>bd k ((D k).mpr ⟨a,b⟩) (cr.mpr ⟨p,hB.mpr c,e.symm⟩)⟩
noncomputable def ie (R:List aj) (t:Nat):List Nat:=by
 classical exact if h:∃k O,bH R t k O then h.choose else[]
theorem hw (I:aW R) (h:bH R t k O):ie R t=k:=by
 unfold ie;have x:∃k O,bH R t k O:=o_ k O h;refine ak (dif_pos x) ?_;obtain⟨i,a⟩:=x.choose_spec;exact(mE I a h).1
noncomputable def fo (R:List aj) (p:Nat×Nat):Bool:=cz (ie R p.1) (ie R p.2)
noncomputable def fE (R:List aj) (P:List (Nat×Nat)):Nat:=(P.map fun p=>(ie R p.1).length+1).sum
theorem Pa:fE R (p::P)=(ie R p.1).length+1+fE R P:=by unfold fE;simp
theorem z1:fE R (P++Q)=fE R P+fE R Q:=by unfold fE;simp
structure vd (ro:Bool) (m M:bh) (a s:Prop):Prop where
 no:(ro=af∨m.tel=ai∨s)→M.N=m.N
 yes:ro=ai→m.tel=af→a→¬s→m.N<M.N
theorem vd.snoc {p:Nat×Nat} (t:vd ro m M True (∀q∈d,q.1=q.2)) (N:m.N≤M.N) (h:g.N=if ro=ai∧m.tel=af∧p.1≠p.2 then M.N+1 else M.N):vd ro m g True (∀q∈d++[p],q.1=q.2):=by
 have i:p∈d++[p]:=eD _ (cU _);refine⟨fun a=> ?_,fun r f _ s=> ?_⟩
 ·rw[h,aL fun c=> ?_,t.no (a.imp id fun a=>a.imp id fun a q b=>a q (cG _ b))];exact a.elim (fun e=>nomatch e.symm.trans c.1) fun a=>a.elim (fun e=>nomatch e.symm.trans c.2.1) fun e=>c.2.2 (e p i)
 ·rw[h];by_cases e:p.1=p.2
  ·rw[aL fun c=>c.2.2 e];exact t.yes r f trivial fun a=>s fun q b=>(dD.mp b).elim (a q) fun b=>bW.mp b▸e
  ·rw[aJ ⟨r,f,e⟩];exact t4 N
noncomputable def cN.E (h:(i !=0)=b):cN a:=.z (o:=hG (ag i)) (v:=b) (by subst h;show ac (!aM ((i:Int)=((0:Nat):Int)))=_;rw[n7.mpr Eo];rfl)
theorem p5 {N:Nat→Prop} {r o:Type} (p:List Nat) (f:r→aj) (l:List r) (F:o→au) (S:o→ar) (I:List r→o→Prop) (Q:cR→o→Prop) (m:o) (i:I [] m) (u:kw g p=af)
  (s:∀d j r1 x,l=d++j::r1→I d x→∀t:Prop,(∀X,I (d++[j]) X→gy b (l.map f) (S X)=af→(∀n,N n→ff n g p (hn (F m)) (f j) (F x) (S x) a' (F X) (S X))→t)→
   (∀k X,Q (qz k) X→qt k=af→(∀n,N n→ff n g p (hn (F m)) (f j) (F x) (S x) k (F X) (S X))→t)→t)
  (v:∀x,I l x→Q a' x) {G:Prop} (q:∀k x,Q k x→(∀n,N n→cc bw (aZ n) (dS g p b (l.map f) (F m) (S m)) k (F x) (S x))→G):G:=bK (tG p f l F S I Q m i u (fun d j r1 x e h=>s d j r1 x e h _ (fun X a b c=>cL X a' c (av ⟨av rfl,a,b⟩)) fun k X a b c=>cL X k c (aI ⟨b,a⟩)) v) fun k x h w=>q k x h w
structure Fd (R:List aj) (Pr:List (Nat×Nat)) (m:bh) (ro:Bool) (d:List (Nat×Nat)) (M:bh):Prop where
 all:d.all (fo R)=af
 g:dV R Pr m M (fE R d)
 tw:d8 M.tw
 tl:vd ro m M True (∀p∈d,p.1=p.2)
structure GY (R:List aj) (Pr:List (Nat×Nat)) (m:bh) (ro:Bool) (d:List (Nat×Nat)) (M:bh):Prop where
 g:dV R Pr m M (fE R d)
 tw:d8 M.tw
 tl:vd ro m M (d.all (fo R)=af) (∀p∈d,p.1=p.2)
theorem dV.withN {N:Nat} (g:dV R Pr m M c) (h:M.N≤N) (a:N≤m.N+c) (b:N≤100000):dV R Pr m {M with tw:=t,N:=N} c:=
 ⟨⟨g.ok.nd,g.ok.kt,g.ok.kok,g.ok.aok,g.ok.len,g.ok.a,b⟩,g.dp,ao g.N h,a,g.tel,g.n,g.l,g.tr,g.i,g.kf⟩
theorem Ig (I:aW R) (h:bH R p.1 k O) (c:bH R p.2 k' w) (r:∀p∈Pr,∃l,cg R p.1 l)
  (f:m.a+fE R (d++[p])≤20000) (j:m.dp<59) (n:m.tr≠[]) (i:Fd R Pr m ro d b)
  {G:Prop} (q:∀M,aE 17 4921 [.l (an 2),.l (ag p.1),.l (ag p.2)] (b.st R) (aA (fo R p)) [] (M.st R)→dV R Pr m M (fE R (d++[p]))→M.N=b.N→b.N+1≤m.N+fE R (d++[p])→M.tel=m.tel→d8 M.tw→G):G:=by
 have E:fE R (d++[p])=fE R d+(k.length+1):=by rw[z1,Pa,hw I h];rfl
 rw[E] at f q;refine i.g.tr.elim fun X o=> ?_;refine(K_ I i.g.ok h c (fun q s=>by
  obtain⟨l,g⟩:=r q s;refine⟨fun e=>h.notLI (e▸g),fun t=>(ay (h.to _ t) fun u _ v=> ?_)⟩;exact(bH.d I v).notLI g) (ao (dc i.g.l (k.length+1)) (ao (a9 (ev ..)) f)) (i.g.dp▸j) (fun e=>n (pk.mp (o▸e)).1)).elim fun M z=>z.elim fun A a=> ?_
 refine q M ?_ (i.g.trans a.todV) a.eN ?_ (a.tel.trans i.g.tel) (a.tw▸i.tw)
 ·unfold fo;exact ak (hw I h) (ak (hw I c) A)
 ·exact ao (dd i.g.j (b3 (cA k.length))) (a9 (ev ..))
theorem vn {m:bh} (I:aW R) (U:eC R Pr m) (u:d8 m.tw) (V:∀p∈P,∃k O k' y,bH R p.1 k O∧bH R p.2 k' y) (X:∀p∈Pr,∃l,cg R p.1 l)
  (Z:m.a+fE R P≤20000) (α:m.N+fE R P≤90000) (β:m.dp<59) (γ:m.tr≠[])
  {G:Prop} (q:∀M,aE 18 268 [.l (an 2),.l (.c (P.map bc)),.l (ag ro)] (m.st R) (aA (P.all (fo R))) [] (M.st R)→GY R Pr m (ro !=0) P M→G):G:=by
 refine p5 (N:=(17≤·)) (g:=268) (b:=ah) [0] bc P (fun _:bh=>[(27,.l (an 2)),(71,.l (.c (P.map bc))),(72,.l (ag ro))]) (fun m=>m.st R) (Fd R Pr m (ro !=0)) (fun f s=>f=(if P.all (fo R) then a' else .h (aA ai))∧GY R Pr m (ro !=0) P s)
  m ⟨rfl,.f U,u,⟨fun _=>rfl,fun _ _ _ h=>aR (fun _ h=>(by cases h)) h⟩⟩ rfl
  (fun d p r s e i κ Q δ=> ?_) (fun s i=>⟨by rw[i.all];rfl,i.g,i.tw,i.tl.no,fun a b _=>i.tl.yes a b trivial⟩) fun f s h w=> ?_
 ·have ε:P=(d++[p])++r:=by rw[e,ef];rfl
  have u:fE R (d++[p])≤fE R P:=by rw[ε,z1 (P:=d++[p])];exact bu _ _
  refine tL (V p (eO e)) fun k O k' y C F=>Ig I C F X (ao (cj u _) Z) β γ i fun M A g E L t W=> ?_;have v:P.all (fo R)=(fo R p&&r.all (fo R)):=by rw[e,yb,i.all,m0];rfl
  have D:(d++[p]).all (fo R)=fo R p:=ak yb (ak i.all (ak m0 (n9 _)));induction S:fo R p with
  |false=>
   rw[S] at A v;refine δ (.h (aA ai)) M ⟨by refine ak v ?_;rfl,g.le u,W,fun h=>E.trans (i.tl.no (h.imp id fun h=>h.imp id fun h q ζ=>h q (e▸cG _ ζ))),fun _ _ h=>nomatch v.symm.trans h⟩ rfl fun n j=> ?_;have A:=A n j;exact bq 0 [.call A]
  |true=>
   rw[S] at A D;refine(Pu I C F W (ao (a9 E) (aD i.g.ok.N rfl))).elim fun T z=>z.elim fun B η=> ?_;rcases Re (ro !=0) with o|o
   ·refine Q M ⟨D,g,W,i.tl.snoc i.g.N (by refine ak (if_neg fun c=>Bool.false_ne_true (c.1.symm.trans o)) ?_;exact E)⟩ rfl fun n j=> ?_;have A:=A n j;exact bq 16 [.call A,.E o]
   ·have x:(if M.tel=af∧p.1≠p.2 then M.N+1 else M.N)≤s.N+1∧M.N≤if M.tel=af∧p.1≠p.2 then M.N+1 else M.N:=by refine ak E ?_;split;exact⟨bv _,fQ _⟩;exact⟨fQ _,bv _⟩
    refine Q _ ⟨D,g.withN x.2 (ao x.1 L) (ao x.1 (ao L (aD (ao (cj u m.N) α) rfl))),η,i.tl.snoc i.g.N ?_⟩ rfl fun n j=> ?_
    ·refine ak E ?_;refine ak t (ak o ?_);simp only[true_and]
    ·have A:=A n j;exact bq 16 [.call A,.E o,.call (B n (bl j rfl))]
 ·refine h.elim fun θ ι=>q s (zo.of _ _ fun n j=> ?_) ι;have w:=w n j;rw[θ] at w;cases e:P.all (fo R)<;>rw[e] at w<;>exact aw 0 [.sub w]
theorem oK {a:aK} (h:(p=p'∧n>p+a.ts.length∧n'>p+a.ts.length)∨(a.fr≤p∧a.fr≤p'∧n≤p+a.ts.length∧n'≤p'+a.ts.length∧n-p=n'-p'∧p≤n∧p'≤n')∨(a.fr≤p∧a.fr≤p'∧n>p+a.ts.length∧n'>p'+a.ts.length)):a.slot n p=a.slot n' p':=by
 unfold aK.slot aK.fr at*;rcases h with⟨rfl,b,d⟩|⟨b,d,e,f,g,i,j⟩|⟨b,d,e,f⟩
 ·rw[if_neg (show¬n≤p+a.ts.length by exact Nat.not_le_of_lt (b6 (.c 1 (.a (.a .b .f) .n1) .g (.g 1 (.a (.a .b .f) .n1) .g)) rfl b)),if_neg (show¬n'≤p+a.ts.length by exact Nat.not_le_of_lt (b6 (.c 1 (.a (.a .b .f) .n1) .g (.g 1 (.a (.a .b .f) .n1) .g)) rfl d))]
 ·rw[if_neg (show¬p<a.hs.length by exact Nat.not_lt_of_le (b6 (.c 1 (.a .b .f) .g (.g 1 .b .g)) rfl b)),if_neg (show¬p<a.hs.length+a.os.length by exact Nat.not_lt_of_le (b6 (.c 1 (.a .b .f) .g (.g 1 (.a .b .f) .g)) rfl b)),if_pos e,if_neg (show¬p'<a.hs.length by exact Nat.not_lt_of_le (b6 (.c 1 (.a .b .f) .g (.g 1 .b .g)) rfl d)),if_neg (show¬p'<a.hs.length+a.os.length by exact Nat.not_lt_of_le (b6 (.c 1 (.a .b .f) .g (.g 1 (.a .b .f) .g)) rfl d)),if_pos f,
   show p+a.ts.length-n=p'+a.ts.length-n' by exact Nat.le_antisymm (qX (.c 1 .b .f (.c 1 (.a .g .j) (.a .l .o) (.c 1 .o (.a .b .g) (.c 1 (.a .p .q) (.a .r .j) (.c 1 (.a .f .r) .q (.g 1 .p .l)))))) rfl (Nat.le_of_eq (Eq.symm g)) (Nat.sub_le_iff_le_add.mp (Nat.le_refl (p'+a.ts.length-(n')))) (Nat.sub_le_iff_le_add.mp (Nat.le_refl (n'-(p')))) (Nat.le_of_eq (Nat.sub_add_cancel e)) (Nat.le_of_eq (Nat.sub_add_cancel i))) (qX (.c 1 .b .f (.c 1 (.a .g .j) (.a .l .o) (.c 1 .o (.a .b .g) (.c 1 (.a .p .q) (.a .r .j) (.c 1 (.a .f .r) .q (.g 1 .p .l)))))) rfl (Nat.le_of_eq g) (Nat.sub_le_iff_le_add.mp (Nat.le_refl (p+a.ts.length-(n)))) (Nat.sub_le_iff_le_add.mp (Nat.le_refl (n-(p)))) (Nat.le_of_eq (Nat.sub_add_cancel f)) (Nat.le_of_eq (Nat.sub_add_cancel j)))]
 ·rw[if_neg (show¬p<a.hs.length by exact Nat.not_lt_of_le (b6 (.c 1 (.a .b .f) .g (.g 1 .b .g)) rfl b)),if_neg (show¬p<a.hs.length+a.os.length by exact Nat.not_lt_of_le (b6 (.c 1 (.a .b .f) .g (.g 1 (.a .b .f) .g)) rfl b)),if_neg (show¬n≤p+a.ts.length by exact Nat.not_le_of_lt (b6 (.c 1 (.a (.a .b .f) .n1) .g (.g 1 (.a (.a .b .f) .n1) .g)) rfl e)),if_neg (show¬p'<a.hs.length by exact Nat.not_lt_of_le (b6 (.c 1 (.a .b .f) .g (.g 1 .b .g)) rfl d)),if_neg (show¬p'<a.hs.length+a.os.length by exact Nat.not_lt_of_le (b6 (.c 1 (.a .b .f) .g (.g 1 (.a .b .f) .g)) rfl d)),if_neg (show¬n'≤p'+a.ts.length by exact Nat.not_le_of_lt (b6 (.c 1 (.a (.a .b .f) .n1) .g (.g 1 (.a (.a .b .f) .n1) .g)) rfl f))]
theorem BW {a b:aK} (o:a.Ok) (w:b.Ok) (d:max a.fr b.fr+max a.ts.length b.ts.length<N) (u:a.rs=[]→a.fr≤N) (t:∀n,a.let n→b.let n)
  (h:∀n,n≤N→a.let n→∀p,p<n→cz (a.slot n p) (b.slot n p)=af):∀n,a.let n→∀p,p<n→cz (a.slot n p) (b.slot n p)=true:=by
 intro n l p f;by_cases g:n≤N
 ·exact h n g l p f
 have v:a.rs≠[]:=fun e=>by
  have s:=u e;have:=l.2.resolve_left (fun h=>h e);rw[(gl fun h=>o.ts h e)] at this;unfold aK.fr at s;simp at this;exact kY 0 (b8 (.c 1 (.a .b .n1) .f (.c 1 (.a .g .j) .b (.c 1 .f (.a .g .j) (.g 1 .n1 .n0)))) rfl (f' g) s this)
 have m:a.let N:=⟨by have:=l.1;unfold aK.fr at d;exact jR (.c 1 (.a (.a .b .f) .n1) .g (.c 1 (.a .j .l) .b (.c 1 .o .f (.g 1 (.a .j .o) .g)))) rfl d (iY (a.hs.length+a.os.length) (b.hs.length+b.os.length)) (iY (a.ts.length) (b.ts.length)),av v⟩
 by_cases r:p<max a.fr b.fr
 ·rw[oK (n':=N) (p':=p) (av ⟨rfl,by exact jR (.c 1 (.a (.a .b .f) .n1) .g (.c 1 (.a .g .n1) .j (.c 1 (.a .l .n1) .b (.c 1 .o .f (.g 1 (.a (.a .l .o) .n1) .j))))) rfl d (f' g) r (iY (a.ts.length) (b.ts.length)),e6 (.c 1 (.a (.a .b .f) .n1) .g (.c 1 (.a .j .n1) .b (.c 1 .l .f (.g 1 (.a (.a .j .l) .n1) .g)))) rfl d r (iY (a.ts.length) (b.ts.length))⟩),oK (n:=n) (n':=N) (p':=p) (av ⟨rfl,jR (.c 1 (.a (.a .b .f) .n1) .g (.c 1 (.a .g .n1) .j (.c 1 (.a .l .n1) .b (.c 1 .o .f (.g 1 (.a (.a .l .o) .n1) .j))))) rfl d (f' g) r (mZ (a.ts.length) (b.ts.length)),e6 (.c 1 (.a (.a .b .f) .n1) .g (.c 1 (.a .j .n1) .b (.c 1 .l .f (.g 1 (.a (.a .j .l) .n1) .g)))) rfl d r (mZ (a.ts.length) (b.ts.length))⟩)];exact h N (bv _) m p (b8 (.c 1 (.a (.a .b .f) .n1) .g (.c 1 (.a .j .n1) .b (.g 1 (.a .j .n1) .g))) rfl d r)
 ·by_cases q:n-p≤max a.ts.length b.ts.length
  ·have k:∀c:aK,c.fr≤max a.fr b.fr→c.slot n p=c.slot N (N-(n-p)):=fun c i=>by
    by_cases j:n≤p+c.ts.length
    ·exact oK (aI (av ⟨b6 (.c 1 .b .f (.c 1 .g .b (.g 1 .g .f))) rfl (dC r) i,jR (.c 1 (.a (.a .b .f) .n1) .g (.c 1 .j .f (.c 1 .l .b (.c 1 .g (.a .o .j) (.g 1 .l .o))))) rfl d q i (g3.mp (bv (N-(n-p)))),j,jR (.c 1 .b (.a .f .g) (.c 1 .j (.a .l .o) (.c 1 (.a .o .f) .b (.g 1 .j (.a .l .g))))) rfl j (g3.mp (bv (N-(n-p)))) (a9 (fi (show p≤n from cD (.c 1 (.a .b .n1) .f (.g 1 .b .f)) rfl f))),e8 (b8 (.c 1 .b (.a .f .g) (.c 1 (.a .g .j) .b (.g 1 .j .f))) rfl (g3.mp (bv (N-(N-(n-p))))) (a9 (fi (show n-p≤N from b8 (.c 1 (.a (.a .b .f) .n1) .g (.c 1 .j .f (.g 1 .j .g))) rfl d q)))) (b8 (.c 1 .b (.a .f .g) (.c 1 (.a .j .f) .b (.g 1 .j .g))) rfl (g3.mp (bv (N-(n-p)))) (a9 (fi (show N-(n-p)≤N from cD (.c 1 .b .f (.g 1 .b .f)) rfl (it (N) (n-p)))))),cD (.c 1 (.a .b .n1) .f (.g 1 .b .f)) rfl f,cD (.c 1 .b .f (.g 1 .b .f)) rfl (it (N) (n-p))⟩))
    ·exact oK (aI (aI ⟨b6 (.c 1 .b .f (.c 1 .g .b (.g 1 .g .f))) rfl (dC r) i,jR (.c 1 (.a (.a .b .f) .n1) .g (.c 1 .j .f (.c 1 .l .b (.c 1 .g (.a .o .j) (.g 1 .l .o))))) rfl d q i (g3.mp (bv (N-(n-p)))),b6 (.c 1 (.a (.a .b .f) .n1) .g (.g 1 (.a (.a .b .f) .n1) .g)) rfl (f' j),jR (.c 1 (.a (.a .b .f) .n1) .g (.c 1 .g (.a .j .b) (.c 1 (.a .l .j) .o (.g 1 (.a (.a .l .f) .n1) .o)))) rfl (f' j) (g3.mp (bv (n-(p)))) (a9 (fi (show n-p≤N from b8 (.c 1 (.a (.a .b .f) .n1) .g (.c 1 .j .f (.g 1 .j .g))) rfl d q)))⟩))
   rw[k a (cD (.c 1 .b .f (.g 1 .b .f)) rfl (iY (a.fr) (b.fr))),k b (cD (.c 1 .b .f (.g 1 .b .f)) rfl (mZ (a.fr) (b.fr)))];exact h N (bv _) m _ (e6 (.c 1 (.a .b .n1) .f (.c 1 .f (.a .g .b) (.c 1 (.a .j .g) .l (.g 1 (.a .j .n1) .l)))) rfl f (g3.mp (bv (n-(p)))) (a9 (fi (show n-p≤N from b8 (.c 1 (.a (.a .b .f) .n1) .g (.c 1 .j .f (.g 1 .j .g))) rfl d q))))
  ·rw[oK (n':=N) (p':=max a.fr b.fr) (aI (aI ⟨by exact b6 (.c 1 .b .f (.c 1 .g .b (.g 1 .g .f))) rfl (dC r) (iY (a.fr) (b.fr)),cD (.c 1 .b .f (.g 1 .b .f)) rfl (iY (a.fr) (b.fr)),by exact e6 (.c 1 (.a .b .n1) .f (.c 1 .g .b (.c 1 (.a .f .j) .l (.g 1 (.a (.a .j .g) .n1) .l)))) rfl (f' q) (iY (a.ts.length) (b.ts.length)) (a9 (fi (show p≤n from cD (.c 1 (.a .b .n1) .f (.g 1 .b .f)) rfl f))),b8 (.c 1 (.a (.a .b .f) .n1) .g (.c 1 .j .f (.g 1 (.a (.a .b .j) .n1) .g))) rfl d (iY (a.ts.length) (b.ts.length))⟩)),oK (n':=N) (p:=p) (p':=max a.fr b.fr) (aI (aI ⟨b6 (.c 1 .b .f (.c 1 .g .b (.g 1 .g .f))) rfl (dC r) (mZ (a.fr) (b.fr)),cD (.c 1 .b .f (.g 1 .b .f)) rfl (mZ (a.fr) (b.fr)),by exact e6 (.c 1 (.a .b .n1) .f (.c 1 .g .b (.c 1 (.a .f .j) .l (.g 1 (.a (.a .j .g) .n1) .l)))) rfl (f' q) (mZ (a.ts.length) (b.ts.length)) (a9 (fi (show p≤n from cD (.c 1 (.a .b .n1) .f (.g 1 .b .f)) rfl f))),b8 (.c 1 (.a (.a .b .f) .n1) .g (.c 1 .j .f (.g 1 (.a (.a .b .j) .n1) .g))) rfl d (mZ (a.ts.length) (b.ts.length))⟩))];exact h N (bv _) m _ (b6 (.c 1 (.a (.a .b .f) .n1) .g (.g 1 (.a .b .n1) .g)) rfl d)
theorem np {a:aK}:a.els.length=a.hs.length+a.os.length+a.rs.length+a.ts.length:=by unfold aK.els;simp;exact e8 (b8 (.g 1 (.a .b (.a .f (.a .g .j))) (.a (.a (.a .b .f) .g) .j)) rfl) (b8 (.g 1 (.a (.a (.a .b .f) .g) .j) (.a .b (.a .f (.a .g .j)))) rfl)
theorem oU {a:aK} (o:a.Ok):(∀p,p<a.hs.length→a.els[p]? =ac ((a.hs[p]?).getD [],0))∧(∀p,p<a.os.length→a.els[a.hs.length+p]? =ac ((a.os[p]?).getD [],1))∧
  (a.rs≠[]→a.els[a.fr]? =ac ((a.rs[0]?).getD [],2))∧(∀p,p<a.ts.length→a.els[a.fr+1+p]? =ac ((a.ts[p]?).getD [],0)):=by
 unfold aK.els aK.fr;refine nD (fun p b=> ?_) (fun p b=> ?_) (fun h=> ?_) (fun p b=> ?_)
 ·rw[jF (by simp;exact b8 (.c 1 (.a .b .n1) .f (.g 1 (.a .b .n1) (.a .f (.a .g .j)))) rfl b),jF (by simp;exact b6 (.c 1 (.a .b .n1) .f (.g 1 (.a .b .n1) (.a .f .g))) rfl b),jF (by simpa using b),dX];rw[cS b];rfl
 ·rw[jF (by simp;exact b6 (.c 1 (.a .b .n1) .f (.g 1 (.a .b .n1) (.a .f .g))) rfl b),jF (by simp;exact cD (.c 1 (.a .b .n1) .f (.g 1 (.a .b .n1) .f)) rfl b),jE (by simp),dX];simp only[aB,Dy];rw[cS b];rfl
 ·have l:=jf.mpr h;rw[jF (by simp;exact dN (.c 1 (.a .n0 .n1) .b (.g 1 (.a .n0 .n1) .b)) rfl l),jE (by simp),dX];simp only[bi,aB,pE];refine ak (cS l) ?_;rfl
 ·have r:a.rs.length=1:=by
   have d:=o.rs;have:=jf.mpr (o.ts (fun e=>by rw[e] at b;simp at b));exact e8 (dN (.c 1 .b .n1 (.g 1 .b .n1)) rfl d) (dN (.c 1 (.a .n0 .n1) .b (.g 1 .n1 .b)) rfl this)
  rw[jE (by simp;exact b8 (.c 1 .b .n1 (.g 1 (.a .f (.a .g .b)) (.a (.a (.a .f .g) .n1) .j))) rfl (a9 r)),dX];simp only[bi,aB,r];rw[show a.hs.length+a.os.length+1+p-(a.hs.length+a.os.length+1)=p by exact e8 (b8 (.c 1 (.a .b (.a (.a .f .g) .n1)) (.a (.a (.a .f .g) .n1) .j) (.g 1 .b .j)) rfl (a9 (fi (show a.hs.length+a.os.length+1≤a.hs.length+a.os.length+1+p from b6 (.g 1 (.a (.a .b .f) .n1) (.a (.a (.a .b .f) .n1) .g)) rfl)))) (b8 (.c 1 (.a (.a (.a .b .f) .n1) .g) (.a .j (.a (.a .b .f) .n1)) (.g 1 .g .j)) rfl (g3.mp (bv (a.hs.length+a.os.length+1+p-(a.hs.length+a.os.length+1))))),cS b];rfl
theorem qL:eh E=(E.map (·.2)).findIdx? fun m=>aM (2≤m):=by
 refine ak (List.findIdx?_map) ?_;rfl
theorem aK.marks {a:aK}:a.els.map (·.2)=cx a.hs.length 0++cx a.os.length 1++cx a.rs.length 2++cx a.ts.length 0:=by
 unfold aK.els;simp only[cd,eg];congr 1
 ·congr 1
  ·congr 1<;>(rw[DH];simp)
  ·rw[DH];simp
 ·rw[DH];simp
theorem jS {a:aK} (o:a.Ok) (h:E.map (·.2)=a.els.map (·.2)):eh E=if a.rs=[] then ah else ac a.fr:=by
 rw[qL,h,aK.marks];split
 ·rename_i r;rw[List.findIdx?_eq_none_iff,r,(gl fun h=>o.ts h r)];intro x b;simp at b;rcases b with⟨_,rfl⟩|⟨_,rfl⟩<;>rfl
 ·rename_i r;have l:a.rs.length=1:=by have u:=List.length_pos_iff.mpr r;have U:=o.rs;exact Nat.le_antisymm (dN (.c 1 .b .n1 (.g 1 .b .n1)) rfl U) (dN (.c 1 (.a .n0 .n1) .b (.g 1 .n1 .b)) rfl u)
  rw[List.findIdx?_eq_some_iff_getElem];unfold aK.fr;refine bd (by simp[l]) (?_) (fun j c=> ?_)
  ·simp[l,List.getElem_append]
  ·simp only[List.length_append,List.length_replicate,List.getElem_append,List.getElem_replicate,l];rw[dif_pos (by exact b6 (.c 1 (.a .b .n1) (.a .f .g) (.g 1 (.a .b .n1) (.a (.a .f .g) .n1))) rfl c),dif_pos (by exact b6 (.c 1 (.a .b .n1) (.a .f .g) (.g 1 (.a .b .n1) (.a .f .g))) rfl c)];split<;>simp
theorem sR {a:aK} (h:E.map (·.2)=a.els.map (·.2)):gh E=a.hs.length+a.ts.length:=by
 unfold gh;have:(E.filter fun p=>p.2==0).length=((E.map (·.2)).filter (·==0)).length:=by rw[List.filter_map,aB];rfl
 rw[this,h,aK.marks];simp[pv,List.filter_replicate]
theorem uY (I:aW R) (h:b5 R E (fF l)) {i:Nat} (c:E[i]? =ac q) (d:l[i]? =ac (k,mk)):ie R q.1=fL k mk∧∃O,bH R q.1 (fL k mk) O:=by
 refine bK (h.at c) fun e O a b=> ?_;unfold fF at a;rw[dX,d] at a;simp only[n5,lN,Ed] at a;exact ak a.1 (⟨hw I b,O,b⟩)
theorem qT {a:aK} (o:a.Ok) (r:a.rs=[]):a.ts=[]:=gl fun h=>o.ts h r
theorem wf {a:aK} (o:a.Ok) (h:¬a.rs=[]):a.rs.length=1:=e8 o.rs (jf.mpr h)
theorem mD {a:aK} {E:List (Nat×Nat)} (h:E.map (·.2)=a.els.map (·.2)):E.length=a.hs.length+a.os.length+a.rs.length+a.ts.length:=by
 rw[←np,←aB,h,aB]
theorem NK {a:aK} (o:a.Ok) (h:p<a.fr) {G:Prop} (q:∀k mk,a.els[p]? =ac (k,mk)→fL k mk=a.slot n p→G):G:=by
 have e:=oU o;unfold aK.slot at q;by_cases b:p<a.hs.length
 ·exact q _ _ (e.1 p b) (by rw[aJ b];rfl)
 ·have c:=e.2.1 (p-a.hs.length) (tV (dC b) h);rw[rb (dC b)] at c;exact q _ _ c (by rw[aL b,aJ (show p<a.hs.length+a.os.length from h)];rfl)
theorem si {a:aK} (o:a.Ok) (j:a.let n) (g:p<n) {G:Prop} (q:∀(i:Nat) (k:List Nat) (mk:Nat),a.els[i]? =ac (k,mk)→fL k mk=a.slot n p→(∀E:List (Nat×Nat),E.map (·.2)=a.els.map (·.2)→fj E n p=E[i]?)→G):G:=by
 by_cases f:p<a.fr
 ·exact NK o f fun k mk l m=>q p k mk l m fun E b=>by
   unfold fj;rw[jS o b];by_cases r:a.rs=[]
   ·rw[aJ r]
   ·rw[aL r];exact aJ f
 ·have r:=fun r=>f (ft g (by have:=j.2.resolve_left fun h=>h r;rw[qT o r] at this;exact this));have R:=wf o r;have e:=(oU o).2.2;have z:∀E:List (Nat×Nat),E.map (·.2)=a.els.map (·.2)→E.length=a.fr+1+a.ts.length:=fun E b=>R▸mD b;have d:∀E:List (Nat×Nat),E.map (·.2)=a.els.map (·.2)→fj E n p=if n≤p+a.ts.length then E[a.fr+1+(p+a.ts.length-n)]?else E[a.fr]? :=fun E b=>by
   unfold fj;rw[jS o b,aL r];show(if p<a.fr then E[p]?else if n≤p+(E.length-a.fr-1) then E[E.length+p-n]?else E[a.fr]?)=_
   rw[aL f,z E b,S1,Dy];split
   ·rw[ev _ _ p,f_ _ p,Nat.add_sub_assoc (by assumption)]
   ·rfl
  unfold aK.slot at q;rw[aL (fun h=>f (ft h (bu _ _))),aL (show¬p<a.hs.length+a.os.length from f)] at q;by_cases c:n≤p+a.ts.length
  ·simp only[aJ c] at d q;exact q _ _ _ (e.2 _ (tV c (xW g _))) rfl d
  ·simp only[aL c] at d q;exact q _ _ _ (e.1 r) rfl d
theorem CU {R:List aj} (I:aW R) {a:aK} (o:a.Ok) (h:b5 R E (fF a.els)) {n:Nat} (f:a.let n) (g:p<n):
  ∃q O,fj E n p=ac q∧ie R q.1=a.slot n p∧bH R q.1 (a.slot n p) O:=si o f g fun i k M b j l=>by
 have m:=h.marks.trans (eg ..);have c:i<E.length:=by rw[←aB,m,aB];exact(hy.mp b).1
 refine(uY I h (cS c) b).elim fun d z=>z.elim fun O e=> ?_;rw[j] at d e;exact er (E[i]) O ((l E m).trans (cS c)) d e
theorem Io {a b:aK} (o:a.Ok) (q:b.Ok) (k:A.map (·.2)=a.els.map (·.2)) (m:B.map (·.2)=b.els.map (·.2)):na A B=af↔∀n,a.let n→b.let n:=by
 have l:=sR k;have L:=sR m;have N:A.length=a.els.length:=by have:=aS gK k;simpa using this
 have e:B.length=b.els.length:=by have:=aS gK m;simpa using this
 rw[np] at N e;unfold na;unfold gh at l L;refine ak l (ak L (ak (jS o k) (ak (jS q m) ?_)));have i:=fun r=>gl fun h=>o.ts h r;have j:=fun r=>gl fun h=>q.ts h r;constructor
 ·intro h n p;rw[fu] at h;have g:¬(a.hs.length+a.ts.length<b.hs.length+b.ts.length):=by simpa using h.1
  refine⟨by have:=p.1;exact e6 (.c 1 (.a .b .f) .g (.c 1 (.a .j .l) (.a .b .f) (.g 1 (.a .j .l) .g))) rfl p.1 (dC g), ?_⟩;by_cases c:b.rs=[]
  ·right;have f:=h.2;rw[aJ c] at f;by_cases d:a.rs=[]
   ·have f:=aJ d▸f;simp at f;have:=p.2.resolve_left fun h=>h d;rw[i d,d] at N;rw[j c,c] at e;rw[i d] at this;rw[j c];simp at N e this⊢;exact lB (.c 1 (.a .b .f) .g (.c 1 .j (.a .l .o) (.c 1 .g .j (.c 1 .p (.a .b .f) (.g 1 .p (.a .l .o)))))) rfl (a9 (cB N)) (a9 e) f this
   ·rw[aL d] at f;simp at f
  ·exact av c
 ·intro h;rw[fu];have s:a.let (a.hs.length+a.ts.length):=⟨bv _,aI (b6 (.g 1 (.a .b .f) (.a (.a .b .g) .f)) rfl)⟩
  refine⟨by have:=(h _ s).1;simp;exact b8 (.c 1 (.a .b .f) (.a .g .j) (.g 1 (.a .b .f) (.a .g .j))) rfl this, ?_⟩;by_cases c:b.rs=[]
  ·rw[aJ c];by_cases d:a.rs=[]
   ·rw[aJ d];have g:a.let (a.hs.length+a.os.length+a.ts.length):=⟨b6 (.g 1 (.a .b .f) (.a (.a .b .g) .f)) rfl,aI (bv _)⟩
    have:=(h _ g).2.resolve_left fun h=>h c;rw[i d,d] at N;rw[j c,c] at e;rw[i d,j c] at this;simp at N e this⊢;exact jR (.c 1 .b (.a .f .g) (.c 1 (.a .j .l) .o (.c 1 (.a .f .g) (.a .j .l) (.g 1 .b .o)))) rfl (a9 N) (a9 (cB e)) this
   ·exfalso;have g:a.let (a.hs.length+a.ts.length+b.hs.length+b.os.length+b.ts.length+1):=⟨e6 (.g 1 (.a .b .f) (.a (.a (.a (.a (.a .b .f) .g) .j) .l) .n1)) rfl,av d⟩
    have:=(h _ g).2.resolve_left fun h=>h c;exact kY 0 (e6 (.c 1 (.a (.a (.a (.a (.a .b .f) .g) .j) .l) .n1) (.a (.a .g .j) .l) (.g 1 .n1 .n0)) rfl this)
  ·rw[aL c];simp
theorem I0 (w:b→Nat) (f:b→Bool):∀l:List b,(l.map w).sum=((l.filter f).map w).sum+((l.filter fun x=> !f x).map w).sum:=by
 intro l;induction l with
 |nil=>rfl
 |cons a l i=>
  have:=i;cases h:f a<;>simp[h,this]<;>lia
theorem Qg (w:Nat→Nat):∀(A:List Nat) (B:List Nat) (P:List (Nat×Nat)),P.Nodup→(∀p∈P,p.1∈A∧p.2∈B)→(P.map fun p=>w p.1).sum≤(A.map w).sum*B.length:=by
 intro A;induction A with
 |nil=>
  intro B P _ h;induction P using cn with
  |nil=>simp
  |cons p P=>have:=(h p (by simp)).1;cases this
 |cons a A i=>
  refine fun B P n h=>ak (I0 (fun p:Nat×Nat=>w p.1) (fun p=>p.1==a) P) ?_;have f:((P.filter fun p=> !(p.1==a)).map fun p=>w p.1).sum≤(A.map w).sum*B.length:=by
   refine i B _ (n.sublist mX) fun p b=> ?_;obtain⟨f,g⟩:=c_.mp b;refine⟨(eS.mp (h p f).1).resolve_left fun e=> ?_,(h p f).2⟩;rw[e] at g;simp at g
  have g:((P.filter fun p=>p.1==a).map fun p=>w p.1).sum≤w a*B.length:=by
   have e:∀l:List (Nat×Nat),(∀p∈l,p.1=a)→(l.map fun p=>w p.1).sum=w a*l.length:=by
    intro l;induction l with
    |nil=>intro _;simp
    |cons p l i=>intro k;rw[eE,n8,i fun q c=>k q (je _ c),k p (by simp),mY,EK,lR];exact e8 (cD (.g 1 (.a .b .f) (.a .f .b)) rfl) (cD (.g 1 (.a .b .f) (.a .f .b)) rfl)
   have c:∀p∈P.filter fun p=>p.1==a,p.1=a:=fun p b=>by simpa using(c_.mp b).2
   refine ak (e _ c) (fh _ ?_);have d:((P.filter fun p=>p.1==a).map (·.2)).Nodup:=by
    have j:=n.sublist (mX (p:=fun p:Nat×Nat=>p.1==a));generalize P.filter (fun p=>p.1==a)=l at*;induction l with
    |nil=>exact h7
    |cons p l i=>
     rw[gn] at j;refine gn.mpr ⟨fun m=>(ay (cr.mp m) fun q o t=> ?_),i (fun q r=>c q (je _ r)) j.2⟩;have E:=c q (je _ o);have:q=p:=by induction p;induction q;simp_all
     exact j.1 (this▸o)
   have:=d.length_le_of_subset (l₂:=B) fun x s=>by
    refine ay (cr.mp s) fun p b y=> ?_;subst y;exact(h p (c_.mp b).1).2
   simpa using this
  rw[eE,n8,um];exact b8 (.c 1 .b .f (.c 1 .g .j (.g 1 (.a .g .b) (.a .j .f)))) rfl f g
noncomputable def aK.W (a:aK):Nat:=((fF a.els).map fun p=>p.1.length+1).sum
theorem b5.weight (I:aW R) (h:b5 R E l):((E.map (·.1)).map fun i=>(ie R i).length+1).sum=(l.map fun p=>p.1.length+1).sum:=by
 induction h with
 |nil=>rfl
 |cons a b _ e=>simp only[eE,n8];rw[e,hw I a]
theorem yO (h:fj E n p=ac q):q∈E:=by
 unfold fj at h;split at h
 ·exact eR h
 ·split at h
  ·exact eR h
  ·split at h
   ·exact eR h
   ·exact eR h
def aK.Fit (a b:aK):Prop:=∀n,a.let n→b.let n∧∀p,p<n→cz (a.slot n p) (b.slot n p)=af
theorem q0:∀{m:List Nat},hJ (l.map ag) (m.map ag)=aM (l=m):=by
 induction l with
 |nil=>intro m;induction m using cn<;>kernel_rfl
 |cons a l i=>
  intro m;induction m using cn with
  |nil=>kernel_rfl
  |cons b m=>
   show(aj.beq (ag a) (ag b)&&hJ (l.map ag) (m.map ag))=_;rw[mh,i];by_cases h:a=b<;>by_cases c:l=m<;>simp[h,c]
theorem HK {m:List Nat}:wq eG (.c (l.map ag)) (.c (m.map ag))=ac (!aM (l=m)):=by
 have h:∀l:List Nat,(aj.plain 8 (.c (l.map ag)))=true:=fun l=>xA (n:=7);show(if(aj.plain 8 (.c (l.map ag))&&aj.plain 8 (.c (m.map ag)))=af then ac (hJ (l.map ag) (m.map ag)) else ah).map _=_
 rw[h,h,Ei,aJ rfl,q0];rfl
theorem N9:ci (k++[8]) u=ci k u:=by unfold ci;simp
theorem A_ (h:gi k):u∈cM (k++[8])↔u∈k∨u=8:=by
 rw[fp,N9,dD,bW];constructor
 ·rintro ⟨_,h,_⟩;exact h
 ·rintro (a|rfl)
  ·have:=q6 h▸a;exact fe (h.2.2.1 u a) (av a) ((fp.mp (by rw[q6 h];exact a)).2.2)
  ·exact fe (eM [] (.g 1 (.a (.n 8) .n1) (.n 9)) rfl) (aI rfl) (by simp[ci])
theorem Cy (h:gi k) (h':gi k') (c:8∉k) (d:8∉k') (e:fL k mk=fL k' mk):k=k':=by
 unfold fL at e;split at e
 ·refine oI h.2.1 h'.2.1 fun u=> ?_;have:=A_ h (u:=u);rw[e,A_ h'] at this;constructor
  ·intro a;rcases this.mpr (av a) with b|rfl
   ·exact b
   ·exact absurd a c
  ·intro a;rcases this.mp (.inl a) with b|rfl
   ·exact b
   ·exact absurd a d
 ·exact e
theorem zm (b:i<E.length) (o:Option Nat) (c:eh E=o):∃k p,p<k∧E.length≤k∧k≤(if o.isSome then E.length+E.length else E.length)∧(∀F:List (Nat×Nat),F.length=E.length→eh F=o→fj F k p=F[i]?):=by
 induction o with
 |none=>exact⟨E.length,i,b,bv _,by simp,fun F _ h=>by unfold fj;rw[h]⟩
 |some I=>
  obtain⟨d,_⟩:=Ch c;by_cases e:i<I
  ·exact hK (E.length+E.length) i (cD (.c 1 (.a .b .n1) .f (.g 1 (.a .b .n1) (.a .f .f))) rfl b) (dN (.g 1 .b (.a .b .b)) rfl) (by simp) (fun F _ h=>by unfold fj;rw[h];dsimp only;rw[aJ e])
  ·by_cases f:i=I
   ·subst f;exact hK (E.length+E.length) i (cD (.c 1 (.a .b .n1) .f (.g 1 (.a .b .n1) (.a .f .f))) rfl b) (dN (.g 1 .b (.a .b .b)) rfl) (by simp) (fun F a h=>by unfold fj;rw[h];dsimp only;rw[aL (by exact e7 (dN (.g 1 .b .b) rfl)),aL (by exact jh (e6 (.c 1 .b .f (.c 1 (.a .g .n1) .j (.c 1 (.a .j .l) .b (.g 1 (.a (.a .l .g) .n1) (.a .f .f))))) rfl (a9 a) (a9 (fi (b8 (.c 1 (.a .b .n1) .f (.c 1 .f .g (.c 1 .g (.a .j .b) (.g 1 .n1 .j)))) rfl b (a9 (cB a)) (g3.mp (bv (F.length-(i))))))) (a9 (fi (b6 (.c 1 (.a .b .n1) .f (.c 1 .f .g (.g 1 .b .g))) rfl b (a9 (cB a)))))))])
   ·exact hK (E.length+E.length) (E.length+i) (cD (.c 1 (.a .b .n1) .f (.g 1 (.a (.a .f .b) .n1) (.a .f .f))) rfl b) (dN (.g 1 .b (.a .b .b)) rfl) (by simp) (fun F a h=>by unfold fj;rw[h];dsimp only;rw[aL (by exact e7 (b6 (.c 1 (.a .b .n1) .f (.g 1 .b (.a .f .g))) rfl d)),aJ (by lia),show F.length+(E.length+i)-(E.length+E.length)=i by exact e8 (b8 (.c 1 .b .f (.c 1 (.a .g (.a .f .f)) (.a .b (.a .f .j)) (.g 1 .g .j))) rfl (a9 a) (a9 (fi (b6 (.c 1 .b .f (.g 1 (.a .b .b) (.a .f (.a .b .g)))) rfl (a9 (cB a)))))) (b8 (.c 1 .b .f (.c 1 (.a .f (.a .b .g)) (.a .j (.a .b .b)) (.g 1 .g .j))) rfl (a9 (cB a)) (g3.mp (bv (F.length+(E.length+i)-(E.length+E.length)))))])
theorem aK.Ok.kinds {a:aK} (o:a.Ok) {mk:Nat} (h:(k,mk)∈a.els):gi k∧8∉k∧mk<3:=by
 have y:k∈a.hs++a.os++a.rs++a.ts∧mk<3:=by
  unfold aK.els at h;simp only[dD,cr,Ed] at h⊢;rcases h with((⟨x,h,rfl,rfl⟩|⟨x,h,rfl,rfl⟩)|⟨x,h,rfl,rfl⟩)|⟨x,h,rfl,rfl⟩<;>simp[h]
 exact fe ((o.nk k y.1).1) ((o.nk k y.1).2) y.2
theorem JH {R:List aj} (I:aW R) (q:aW r) (x:bL R r) {a b:aK} (o:a.Ok) (T:b.Ok) (s:b5 R A a.els) (u:b5 R B b.els) (v:b5 r d (fF a.els)) (w:b5 r f (fF b.els)) (m:A.map (·.2)=B.map (·.2))
  (h:∀k p,gh A≤k→k≤d_ A B→p<k→(jz d f k p).1=(jz d f k p).2):A=B:=by
 have M:d.map (·.2)=A.map (·.2):=by rw[v.marks,s.marks];unfold fF;simp
 have y:f.map (·.2)=B.map (·.2):=by rw[w.marks,u.marks];unfold fF;simp
 have z:A.length=B.length:=by have:=aS gK m;simpa using this
 have Z:d.length=A.length:=by have:=aS gK M;simpa using this
 have C:f.length=B.length:=by have:=aS gK y;simpa using this
 have U:eh d=eh A:=by rw[qL,M,←qL]
 have V:eh f=eh A:=by rw[qL,y,←m,←qL]
 refine x5 fun i=> ?_;by_cases j:i<A.length
 ·refine ia (zm j (eh A) rfl) fun k p W X α F=> ?_;have t:gh A≤k:=by unfold gh;have:=hY (fun p:Nat×Nat=>p.2==0) A;exact b6 (.c 1 .b .f (.c 1 .g .b (.g 1 .g .f))) rfl X this
  have β:k≤d_ A B:=by unfold d_;exact ak (cB z) α
  have c:=h k p t β W;have D:=cS (Z.symm▸j:i<d.length);have E:=cS (z.trans C.symm▸j:i<f.length);have g:=cS j;have G:=cS (z▸j:i<B.length);unfold jz at c;have c:=(F d Z U)▸c;have c:=(F f (by rw[C,z]) V)▸c;have c:=D▸c;have c:=E▸c;dsimp only[nW] at c;refine bK (s.at g) fun θ ι L γ=>bK (u.at G) fun κ μ Q δ=> ?_;obtain⟨_,ν,ε⟩:=uY q v D L;obtain⟨_,ξ,P⟩:=uY q w E Q;have S:A[i].2=B[i].2:=by
   have:=aS (fun l:List Nat=>l[i]?) m;simp only[dX,g,G,n5,lN] at this;exact this
  rw[←c] at P;have e:=(mE q ε P).1;rw[S] at e;refine dM (o.kinds (eR L)) fun n N _=>dM (T.kinds (eR Q)) fun ζ η _=> ?_;have:=Cy n ζ N η e;subst this;rw[g,G];congr 1;exact uu (bH.uniq I γ δ) S
 ·rw[po (by exact cD (.c 1 .b .f (.g 1 .b .f)) rfl (dC j)),po (by exact b6 (.c 1 .b .f (.c 1 .f .g (.g 1 .b .g))) rfl (a9 (cB z)) (dC j))]
theorem b5.lt3 (h:b5 R E l):∀q∈E,q.2<3:=h.rec (fun _ h=>(by cases h)) fun _ m _ i=>fun q f=>(eS.mp f).elim (fun e=>e▸m) (i q)
theorem Bw:(fF l).map (·.2)=l.map (·.2):=eg ..
theorem BQ {c:aK} (o:c.Ok) (h:E.map (·.2)=c.els.map (·.2)) (d:c.let k) (e:p<k):(fj E k p).isSome=true:=si o d e fun i _ _ f _ g=>by
 have j:i<E.length:=by rw[←aB,h,aB];exact(hy.mp f).1
 rw[g E h,cS j];rfl
theorem oD {a:aK} (o:a.Ok) (m:A.map (·.2)=a.els.map (·.2)) (c:gh A≤k) (h:k≤d_ A B):a.let k:=by
 rw[sR m] at c;refine⟨c, ?_⟩;by_cases r:a.rs=[]
 ·unfold d_ at h;rw[jS o m,aJ r,mD m,r] at h;exact aI h
 ·exact av r
section
variable{a b:aK}
theorem LH (I:aW R) (o:a.Ok) (f:b.Ok) (g:b5 R A (fF a.els)) (j:b5 R B (fF b.els)) (l:a.let k) (L:b.let k) (h:p<k)
  {G:Prop} (q:∀Q c i d,jz A B k p=(Q,c)→Q∈A.map (·.1)→c∈B.map (·.1)→bH R Q (a.slot k p) i→bH R c (b.slot k p) d→G):G:=by
 refine cE (CU I o g l h) fun Q i e _ P=>cE (CU I f j L h) fun c d E _ m=> ?_;exact q Q.1 c.1 i d (by unfold jz;refine ak e (ak E ?_);rfl) (q_ (yO e)) (q_ (yO E)) P m
structure Te (R:List aj) (a b:aK) (A B P:List (Nat×Nat)):Prop where
 kinds:∀p∈P,∃k O k' i,bH R p.1 k O∧bH R p.2 k' i
 c:fE R P≤a.W*B.length
 all:P.all (fo R)=af↔a.Fit b
theorem FQ (o:a.Ok) (e:b.Ok) (M:A.map (·.2)=a.els.map (·.2)) (i:B.map (·.2)=b.els.map (·.2)) (f:∀n,a.let n→b.let n) (l:∀k,k≤d_ A B→a.let k→∀p,p<k→cz (a.slot k p) (b.slot k p)=af) (c:a.let n):∀p,p<n→cz (a.slot n p) (b.slot n p)=true:=by
 have g:=mD M;have L:=mD i;have j:d_ A B=if a.rs=[] then A.length else A.length+B.length:=by unfold d_;refine ak (jS o M) ?_;split<;>rfl
 by_cases t:n≤d_ A B
 ·exact l n t c
 rw[j] at t l;have d:=fun r=>t (by
  rw[aJ r,g,r,qT o r];have:=c.2.resolve_left fun h=>h r;rw[qT o r] at this;exact this)
 rw[aL d] at t l;have q:=fun r=>t (by
  have:=(f n c).2.resolve_left fun h=>h r;rw[r] at L;exact ao this (ao (a9 L.symm) (gH _ _)))
 have s:=wf o d;have u:=wf e q;refine BW o e ?_ (fun r=>aR r d) f l n c;rw[g,L,s,u];have m {x y:Nat}:max x y≤x+y:=yr.mpr ⟨bu _ _,gH _ _⟩;exact jg (dd (m (x:=a.fr) (y:=b.fr)) (m (x:=a.ts.length) (y:=b.ts.length))) (b8 (a0:=a.fr) (a1:=b.fr) (a2:=a.ts.length) (a3:=b.ts.length) (.g 1 (.a (.a (.a .b .f) (.a .g .j)) .n1) (.a (.a (.a .b .n1) .g) (.a (.a .f .n1) .j))) rfl)
theorem FN (I:aW R) (o:a.Ok) (z:b.Ok) (m:A.map (·.2)=a.els.map (·.2)) (M:B.map (·.2)=b.els.map (·.2)) (C:b5 R D (fF a.els)) (F:b5 R L (fF b.els)) (t:∀n,a.let n→b.let n) (d:P.Nodup)
  (u:∀q,q∈P↔∃k p,gh A≤k∧k≤d_ A B∧p<k∧q=jz D L k p):Te R a b A B P:=by
 have v {G:Prop} {k p:Nat} (c:gh A≤k) (f:k≤d_ A B) (g:p<k):=LH (G:=G) I o z C F (oD o m c f) (t k (oD o m c f)) g;refine⟨fun q j=> ?_, ?_, ?_⟩
 ·exact ia ((u q).mp j) fun k p c f g e=>v c f g fun Q y w x E _ _ r s=>ak e (ak E (BF _ w _ x r s))
 ·have:=Qg (fun i=>(ie R i).length+1) (D.map (·.1)) (L.map (·.1)) P d fun q j=>by
   exact ia ((u q).mp j) fun k p c f g e=>v c f g fun Q y w x E U V _ _=>ak e (ak E (⟨U,V⟩))
  rw[C.weight I,aB,mD (F.marks.trans Bw),←mD M] at this;exact this
 ·rw[cH];constructor
  ·refine fun h n N=>⟨t n N,FQ o z m M t (fun k S l p T=> ?_) N⟩;have c:gh A≤k:=by rw[sR m];exact l.1
   refine v c S T fun Q y w x E _ _ r s=> ?_;have:=h _ ((u _).mpr (hK k p c S T rfl));unfold fo at this;rw[E,hw I r,hw I s] at this;exact this
  ·refine fun h q j=>ia ((u q).mp j) fun k p c f g e=>v c f g fun Q y w x E _ _ r s=> ?_;unfold fo;exact ak e (ak E (ak (hw I r) (ak (hw I s) ((h k (oD o m c f)).2 p g))))
end
noncomputable def gA (ro:Nat) (A B:List (Nat×Nat)) (m:bh):bh:=if ro=0∧¬A.map (·.2)=B.map (·.2) then{m with N:=if m.tel then m.N+1 else m.N} else m
theorem AB (E:List (Nat×Nat)) (h:∀q:Nat×Nat,iD (dw bw (aZ n) k) (kx 270 [3] i k (bc q) L Y) [ag q.2] L Y):cc bw (aZ n) (eu 270 [3] i k (bf E) L Y) (.h (.c ((E.map (·.2)).map ag))) L Y:=by
 have c:=fI [3] i k bc E (fun q=>[ag q.2]) L Y fun q _=>h q;rw[←kd] at c;exact ak eg c
noncomputable def Bi (A B:List (Nat×Nat)) (ro:Nat):au:=[(27,.l (an 2)),(39,.l (.j (bf A))),(5,.l (.j (bf B))),(72,.l (ag ro))]
theorem O3 {m:bh} (z:A.length≤100000) (Z:B.length≤100000) (t:∀q∈A,q.2<3) (T:∀q∈B,q.2<3) (f:na A B=ai):aE 3 270 [.l (an 2),.l (.j (bf A)),.l (.j (bf B)),.l (ag ro)] (m.st R) (aA ai) [] (m.st R):=zo.of _ _ fun n h=>by
 have c:=Cs (Y:=m.st R) z Z n h;rw[f] at c;exact aw 288 [.call (td (Y:=m.st R) Z T n (bl h rfl)),.call (td (Y:=m.st R) z t n (bl h rfl)),.call c]
theorem Qi {M:bh} {P:List (Nat×Nat)} (z:A.length≤100000) (Z:B.length≤100000) (t:∀q∈A,q.2<3) (T:∀q∈B,q.2<3) (f:na A B=af) (N:m.N≤100000)
  (h:aE 7 265 [.l (an 0),.l (.j (bf A)),.l (.j (bf B))] ((gA ro A B m).st R) (.c (P.map bc)) [] ((gA ro A B m).st p)) (d:aE 18 268 [.l (an 2),.l (.c (P.map bc)),.l (ag ro)] ((gA ro A B m).st p) (aA b) [] (M.st p)):
  aE 19 270 [.l (an 2),.l (.j (bf A)),.l (.j (bf B)),.l (ag ro)] (m.st R) (aA b) [] (M.st p):=zo.of _ _ fun n e=>by
 have s:=td (Y:=m.st R) z t n (bl e rfl);have u:=td (Y:=m.st R) Z T n (bl e rfl);have C:=Cs (Y:=m.st R) z Z n (bl e rfl);have C:=f▸C;have h:=h n (bl e rfl);have d:=d n e;have I:(bf A).length≤b4:=ao (a9 ec) (aD z rfl);have v:(bf B).length≤b4:=ao (a9 ec) (aD Z rfl);unfold gA at h d;by_cases r:ro=0
 ·have w:(ro !=0)=false:=by refine ak r ?_;rfl
  have x:=AB (n:=n) (i:=0) (k:=56) (L:=Bi A B ro) (Y:=m.st R) A fun q=>by exact cZ 0 []
  have M:=AB (n:=n) (i:=1) (k:=56) (L:=Bi A B ro) (Y:=m.st R) B fun q=>by exact cZ 0 []
  have g:=HK (l:=A.map (·.2)) (m:=B.map (·.2));by_cases j:A.map (·.2)=B.map (·.2)
  ·rw[aL fun c=>c.2 j] at h d;rw[cu j] at g;exact aw 4384 [.call u,.call s,.call C,.E w,.le I,.sub x,.le v,.sub M,.z (o:=.k eG _ _) g,.call h,.call d]
  ·rw[aJ ⟨r,j⟩] at h d;rw[cP j] at g;exact aw 4384 [.call u,.call s,.call C,.E w,.le I,.sub x,.le v,.sub M,.z (o:=.k eG _ _) g,.call (rW (R:=R) (aD N rfl) n (bl e rfl)),.call h,.call d]
 ·rw[aL fun c=>r c.1] at h d;exact aw 4384 [.call u,.call s,.call C,.E (k5.mpr r),.call h,.call d]
structure Gx (R d:List aj) (Pr:List (Nat×Nat)) (m M:bh) (a b:aK) (c ro:Nat) (r:Bool) (s:Prop):Prop where
 g:dV d Pr m M c
 tw:d8 M.tw
 fit:r=af↔a.Fit b
 n1:(ro≠0∨m.tel=ai)→M.N=m.N
 n2:ro=0→m.tel=af→r=af→¬s→m.N<M.N
theorem zM (o:eC R Pr m) (N:m.N+1≤100000):dV R Pr m (gA ro A B m) 1∧(gA ro A B m).tw=m.tw∧(gA ro A B m).a=m.a∧((ro≠0∨m.tel=ai)→(gA ro A B m).N=m.N)∧(ro=0→m.tel=af→¬A.map (·.2)=B.map (·.2)→(gA ro A B m).N=m.N+1):=by
 have g:=(dV.f o).le (cA 1);unfold gA;by_cases h:ro=0∧¬A.map (·.2)=B.map (·.2)
 ·refine ak (aJ h) (kS (?_) rfl rfl (fun d=> ?_) (fun _ t _=>aJ t))
  ·have e:(if m.tel=af then m.N+1 else m.N)≤m.N+1∧m.N≤if m.tel=af then m.N+1 else m.N:=by split;exact⟨bv _,fQ _⟩;exact⟨fQ _,bv _⟩
   exact g.withN e.2 e.1 (ao e.1 N)
  ·refine ak (d.resolve_left fun d=>d h.1) ?_;rfl
 ·exact ak (aL h) (kS g rfl rfl (fun _=>rfl) (fun a _ c=>aR ⟨a,c⟩ h))
theorem C9 {m:bh} (I:aW R) (W:eC R Pr m) (w:d8 m.tw) (j:a.Ok) (D:b.Ok) (u:b5 R A a.els) (v:b5 R B b.els) (z:A.length≤50) (Z:B.length≤50) (κ:R.length≤800000)
  (μ:∀p∈Pr,∃l,cg R p.1 l) (ν:m.a+(a.W*B.length)≤20000) (N:m.N+(a.W*B.length)+1≤90000) (ξ:m.dp<59) (ο:m.tr≠[])
  {G:Prop} (q:∀F c r,aE 19 270 [.l (an 2),.l (.j (bf A)),.l (.j (bf B)),.l (ag ro)] (m.st R) (aA r) [] (F.st c)→aW c→bL R c→c.length≤R.length+A.length+B.length→Gx R c Pr m F a b (a.W*B.length+1) ro r (A=B)→G):G:=by
 have α:=ao (ao (dc (bu m.N _) 1) N) (show 90000≤100000 by decide);have M:=u.marks;have U:=v.marks;have β:A.length≤100000:=aD z rfl;have γ:B.length≤100000:=aD Z rfl;have δ:=Io j D M U;induction f:na A B with
 |false=>exact q m R ai ((O3 β γ u.lt3 v.lt3 f).up (by decide)) I .f (ao (bu _ _) (bu _ _)) ⟨(dV.f W).le (cA _),w,⟨(fun h=>(by injection h)),fun h=>f.symm.trans (δ.mpr fun n π=>(h n π).1)⟩,fun _=>rfl,fun _ _ h _=>(by injection h)⟩
 |true=>
  have ε:=δ.mp f;refine i6 (zM (ro:=ro) (A:=A) (B:=B) W α) fun g T L ρ σ=>FW (J:=(gA ro A B m).rest) I u v z Z (aD κ rfl) (fun a₄ a₅ E τ k p y C S=>⟨BQ j (E.trans M) (oD j M y C) S,BQ D (τ.trans U) (ε k (oD j M y C)) S⟩) fun a₆ a₇ P c d i x υ ζ η φ θ=> ?_;have V:=FN i j D M U ζ η ε φ θ;have t:=V.c
  refine vn (ro:=ro) i (g.ok.mono x) (T▸w) V.kinds (fun p χ=>(μ p χ).elim fun l ψ=>⟨l,ψ.mono x⟩) (L▸ao (cj t _) ν)
   (by have:=g.j;exact b8 (.c 1 (.a (.a .b .f) .n1) (.n 90000) (.c 1 .g .f (.c 1 .j (.a .b .n1) (.g 1 (.a .j .g) (.n 90000))))) rfl N t this) (g.dp▸ξ) (fun e=>g.tr.elim fun X ω=>ο (pk.mp (ω▸e)).1) fun F a₀ o=> ?_
  refine q F c (P.all (fo c)) (Qi β γ u.lt3 v.lt3 f (kg α) d a₀) i x υ ⟨(g.trans o.g).le (by rw[f_];exact b3 t),o.tw,V.all,fun h=> ?_,fun y C S a₁=> ?_⟩
  ·exact(o.tl.no (h.imp (fun h=>k5.mpr h) fun h=>av (g.tel.trans h))).trans (ρ h)
  ·by_cases ι:A.map (·.2)=B.map (·.2)
   ·exact jg g.N (o.tl.yes (by rw[y];rfl) (g.tel.trans C) S fun s=>a₁ (JH I i x j D u v ζ η ι fun k p Q a₂ a₃=>s _ ((θ _).mpr ⟨k,p,Q,a₂,a₃,rfl⟩)))
   ·exact ft (by rw[σ y C ι];exact lO _) o.g.N
theorem IX {a:aK} (h:p∈a.els):p.2<3:=by
 unfold aK.els at h;simp only[dD,cr] at h;rcases h with((⟨x,_,rfl⟩|⟨x,_,rfl⟩)|⟨x,_,rfl⟩)|⟨x,_,rfl⟩<;>simp
theorem oH.ks (h:oH R s l) (m:∀p∈l,p.2<3):∃E,s=bf E∧b5 R E l:=by
 induction h with
 |nil=>exact⟨[],rfl,g'⟩
 | @cons e k O M s l a _ i=>
  refine ay (i fun p a=>m p (je _ a)) fun E y b=> ?_;subst y;exact bd ((e,M)::E) rfl (gQ a (m (k,M) (by simp)) b)
theorem Jq {l:List (List Nat)} {i:Nat}:(((l.map (·,j)).filter fun p=>p.2==i).map (·.1))=if j=i then l else[]:=by
 induction l with
 |nil=>split<;>rfl
 |cons a l I=>
  rw[eE,ri];by_cases h:j=i
  ·rw[aJ h] at I⊢;rw[aJ (by simp[h]),eE,I]
  ·rw[aL h] at I⊢;rw[aL (by simp[h]),I]
theorem Ay {a:aK}:((a.els.filter fun p=>p.2==i).map (·.1))=(if i=0 then a.hs else[])++(if i=1 then a.os else[])++(if i=2 then a.rs else[])++(if i=0 then a.ts else[]):=by
 unfold aK.els;simp only[pv,cd,Jq];simp only[eq_comm]
theorem IJ {a:aK} (g:a.Ok) (i:b.Ok) (h:a.els=b.els) (r:a.c=b.c):a=b:=by
 have c:=aS (fun l:List (List Nat×Nat)=>(l.filter fun p=>p.2==0).map (·.1)) h;have f:=aS (fun l:List (List Nat×Nat)=>(l.filter fun p=>p.2==1).map (·.1)) h;have d:=aS (fun l:List (List Nat×Nat)=>(l.filter fun p=>p.2==2).map (·.1)) h;rw[Ay,Ay] at c f d;simp at c f d;have k:a.hs.length=b.hs.length:=by
  have L:=aS gK c;simp at L;by_cases e:a.rs=[]
  ·have m:=gl fun q=>g.ts q e;rw[m,(gl fun q=>i.ts q (d▸e))] at L;simpa using L
  ·have j:=jS g (E:=a.els.map fun p=>(0,p.2)) (by simp);have o:=jS i (E:=a.els.map fun p=>(0,p.2)) (by rw[←h];simp);rw[aL e] at j;rw[aL (d▸e),j] at o;simp only[lN] at o;exact Nat.add_right_cancel (ux o (aS (fun z=>b.hs.length+z.length) f.symm))
 obtain⟨n,s⟩:=List.append_inj c k;induction a;induction b
 simp_all
theorem cg.m {R:List aj} (h:cg R t a):(∃e k O,R[t]? =ac (.j [ae 11,ag e,ag a.c])∧bH R e k O∧a=⟨[],[],[k],[],a.c⟩)∨(∃E,R[t]? =ac (.j [ae 12,.j (bf E),ag a.c])∧b5 R E a.els∧0<a.fr):=by
 rcases h.2 with⟨e,k,O,b,c,f,j,l,n⟩|⟨s,b,c,f⟩
 ·exact .inl (mx e k O b c (by induction a;simp_all))
 ·obtain⟨E,rfl,g⟩:=c.ks fun p i=>IX i;exact aI (gX E b g f)
theorem FK (h:bf E=bf F):E=F:=(DV fun a b e=>by
 have c:=aj.j.inj e;exact uu (dh (aj.int.inj (rp c).1)) (dh (aj.int.inj (rp (rp c).2).1))).mp h
theorem b5.inj (I:aW R) (h:b5 R E l) (h':b5 R E L):l=L:=by
 induction h generalizing L with
 |nil=>cases h';rfl
 |cons a _ _ i=>
  cases h' with
  |cons b _ h=>rw[(mE I a b).1,i h]
theorem cg.uniq (I:aW R) (h:cg R t a) (g:cg R t b):a=b:=by
 refine bK h.head fun _ _ Q _=>bK g.head fun _ _ q _=> ?_;have q:=Q▸q;have o:a.c=b.c:=by
  simp only[lN,aj.j.injEq,rj,aj.int.injEq,and_true] at q;exact dh q.2.2
 rcases h.m with⟨e,k,O,c,p,j⟩|⟨E,c,l,f⟩<;>rcases g.m with⟨u,v,i,r,P,n⟩|⟨w,r,s,F⟩
 ·have r:=c▸r;simp only[Option.some.injEq,aj.j.injEq,List.cons.injEq,aj.int.injEq,and_true,true_and] at r;have:=Int.ofNat.inj r.1;subst this;rw[j,n,(mE I p P).1,o]
 ·rw[c] at r;simp at r
 ·rw[c] at r;simp at r
 ·rw[c] at r;simp only[Option.some.injEq,aj.j.injEq,List.cons.injEq,true_and] at r;have:=FK r.1;subst this;exact IJ h.1 g.1 (l.inj I s) o
theorem Ad {a:aK} (o:a.Ok):(∃n p,a.let n∧p<n∧a.slot n p=x)↔∃q∈a.els,x=fL q.1 q.2:=by
 constructor
 ·exact fun z=>cE z fun n p u h e=>si o u h fun i k M c d _=>bd _ (eR c) ((d.trans e).symm)
 ·intro z;refine ay z fun q v e=> ?_;refine(ra v).elim fun i Z=>Z.elim fun f r=> ?_;have m:(a.els.zipIdx.map fun p=>(p.2,p.1.2)).map (·.2)=a.els.map (·.2):=by rw[eg];exact(eg (g:=(·.2)) ..).symm.trans (aS _ (xX 0 a.els))
  have s:(a.els.zipIdx.map fun p=>(p.2,p.1.2)).length=a.els.length:=by rw[aB,pu]
  have A {j:Nat}:(a.els.zipIdx.map fun p=>(p.2,p.1.2))[j]? =a.els[j]?.map fun p=>(j,p.2):=by
   rw[dX,Rx,Option.map_map,jI];rfl
  generalize(a.els.zipIdx.map fun p=>(p.2,p.1.2))=E at m s A;refine ia (zm (s▸f:i<E.length) _ rfl) fun k p h c d w=> ?_;have l:=oD o m (ao (hY ..) c) d;refine si o l h fun j D M b y B=>er k p l h (?_);have t:=(w _ rfl rfl).symm.trans (B _ m);rw[A,A,b,cS f,r] at t;have C:i=j:=aS yB (bD t);subst C;rw[cS f,r] at b;injection b with b;subst b;exact y.symm.trans e.symm
theorem zP {a:aK} (o:a.Ok):a.Fit ⟨[],[],[k],[],r⟩↔∀q∈a.els,cz (fL q.1 q.2) k=true:=by
 have s:∀{n p:Nat},p<n→(⟨[],[],[k],[],r⟩:aK).slot n p=k:=fun{n p} h=>by
  unfold aK.slot;rw[aL (by simp),aL (by simp),aL (by simpa using h)];rfl
 constructor
 ·refine fun h q b=>cE ((Ad o).mpr (bd q b rfl)) fun n p f c g=> ?_;have:=(h n f).2 p c;rw[g,s c] at this;exact this
 ·refine fun h n i=>⟨⟨by simp,av (by simp)⟩,fun p d=>(ay ((Ad o).mp (er n p i d rfl)) fun q b e=> ?_)⟩;rw[s d,e];exact h q b
theorem CG (I:aW R) (h:R.length≤1000000) {G:Prop} (q:∀t f,aE 2 160 [.l (an 0),.l (ag e),.l (ag r)] (aF R::J) (ag t) [] (aF f::J)→aW f→bL R f→f.length≤R.length+1→f[t]? =ac (.j [ae 11,ag e,ag r])→G):G:=by
 refine qa (J:=J) (row:=.j [ae 11,ag e,ag r]) I ⟨rfl,rfl⟩ h fun t f g a b c d=>q t f (zo.of _ _ fun n i=> ?_) a b c d;exact aw 0 [.call (g n i)]
noncomputable def qP (A:List (Nat×Nat)) (e ro t:Nat) (E:List (Nat×Nat)):au:=[(27,.l (an 2)),(8,.l (.j (bf A))),(19,.l (ag e)),(72,.l (ag ro)),(1,.l (an 0)),(73,.l (ag t)),(71,bE (.c ((E.map fun p=>(p.1,e)).map bc)))]
theorem FH (I:aW R) (h:b5 R A l) (o:R.length+A.length≤1000000)
  {G:Prop} (q:∀E r,aW r→bL R r→r.length≤R.length+A.length→b5 r E (fF l)→(∀n,6≤n→cc bw (aZ n) (dS 271 [4] ah (bf A) (qP A e ro t []) (aF R::J)) a' (qP A e ro t E) (aF r::J))→G):G:=
 kV [4] bc A (fun x:List (Nat×Nat)×List aj=>qP A e ro t x.1) (fun x=>aF x.2::J) (ph R A l) ([],R) (.f I h) rfl
  (fun D j U x v f V q=>f.step v o fun W O i P m s N=>tF (J:=J) i P m s fun T r y B C X F L=>by
   refine q _ (N T r y C X F L) rfl fun n M=> ?_;have Q:=f _ fun Z α S i β s k γ=>by
    have z:=aS gK (k.marks.trans Bw);rw[aB,aB] at z;have u:=aS gK S;rw[bi] at u;exact z▸ao (bu _ _) (u▸h.len▸ao (gH _ _) o)
   have g:fJ 3 (.c ((x.1.map fun p=>(p.1,e)).map bc)) [.j [ag T,ag e]]=ac (a4,.c (((x.1++[(T,j.2)]).map fun p=>(p.1,e)).map bc)):=by
    rw[cd,cd];exact aJ (by rw[aB,aB];exact Q)
   exact bq 1 [.x (c5.mpr (hZ m)),.call (B n M),.u g])
  fun x f w=>f.fin fun a b c d=>q x.1 x.2 a b c d w
theorem b5.all_sub (I:aW R) (b:bH R e k O) (h:b5 R E l):(E.map fun p=>(p.1,e)).all (fo R)=l.all fun q=>cz q.1 k:=by
 induction h with
 |nil=>rfl
 |cons a _ _ i=>rw[eE,m0,i,m0];unfold fo;rw[hw I a,hw I b]
structure Qy (R:List aj) (Pr:List (Nat×Nat)) (m:bh) (w:Nat):Prop where
 I:aW R
 ok:eC R Pr m
 g:d8 m.tw
 n:R.length≤800000
 hPr:∀p∈Pr,∃l,cg R p.1 l
 a:m.a+w≤20000
 b:m.N+w+1≤90000
 d:m.dp<59
 hne:m.tr≠[]
structure A9 (m:bh) (R:List aj) (Pr:List (Nat×Nat)) (b:aK) (P:Prop) (c z:Nat) (M:bh) (a:List aj) (r:Bool):Prop where
 I:aW a
 x:bL R a
 z:a.length≤R.length+z
 g:dV a Pr m M c
 w:d8 M.tw
 iff:r=af↔P
 n1:(b.c≠0∨m.tel=ai)→M.N=m.N
 n2:b.c=0→m.tel=af→r=af→m.N<M.N
theorem GB {M:bh} (N:m.N≤100000)
  (h:aE 2 160 [.l (an 0),.l (ag e),.l (ag 1)] ((gA ro [(0,0)] [] m).st R) (ag t) [] ((gA ro [(0,0)] [] m).st i))
  (a:∀n,6≤n→cc bw (aZ n) (dS 271 [4] ah (bf A) (qP A e ro t []) ((gA ro [(0,0)] [] m).st i)) a' (qP A e ro t E) ((gA ro [(0,0)] [] m).st g))
  (d:aE 18 268 [.l (an 2),.l (.c ((E.map fun p=>(p.1,e)).map bc)),.l (ag ro)] ((gA ro [(0,0)] [] m).st g) (aA b) [] (M.st g)):
  aE 19 271 [.l (an 2),.l (.j (bf A)),.l (ag e),.l (ag ro)] (m.st R) (aA b) [] (M.st g):=zo.of _ _ fun n f=>by
 have h:=h n (bl f rfl);have a:=a n (bl f rfl);have d:=d n f;unfold gA at h a d;by_cases r:ro=0
 ·have c:ro=0∧¬[(0,0)].map (·.2)=([]:List (Nat×Nat)).map (·.2):=⟨r,fun e=>(by injection e)⟩;rw[aJ c] at h a d;have j:(ro !=0)=false:=by refine ak r ?_;rfl
  exact aw 0 [.E j,.call (rW (R:=R) (aD N rfl) n (bl f rfl)),.call h,.sub a,.call d]
 ·rw[aL fun c=>r c.1] at h a d;exact aw 0 [.E (k5.mpr r),.call h,.sub a,.call d]
theorem Ki {a b:aK} (p:Qy R Pr m a.W) (ε:a.Ok) (C:b5 R A a.els) {k:List Nat} (v:bH R e k O) (Z:A.length≤50)
  {G:Prop} (q:∀M c r,aE 19 271 [.l (an 2),.l (.j (bf A)),.l (ag e),.l (ag b.c)] (m.st R) (aA r) [] (M.st c)→A9 m R Pr b (∀q∈a.els,cz (fL q.1 q.2) k=af) (a.W+1) (A.length+1) M c r→G):G:=by
 have w:=ao (ao (dc (bu m.N _) 1) p.b) (show 90000≤100000 by decide);refine i6 (zM (ro:=b.c) (A:=[(0,0)]) (B:=[]) p.ok w) fun g T L n N=>CG (J:=(gA b.c [(0,0)] [] m).rest) (e:=e) (r:=1) p.I (aD p.n rfl) fun t ζ d D y z _=>FH (J:=(gA b.c [(0,0)] [] m).rest) (e:=e) (ro:=b.c) (t:=t) D (C.mono y) (ao (dd (ao z (dc p.n 1)) Z) (show 800000+1+50≤1000000 by decide)) fun E c I F P f j=> ?_;have x:=y.trans F;have s:fE c (E.map fun p=>(p.1,e))=a.W:=by
  have:=f.weight I;unfold aK.W fE;rw[←this,eg,eg];rfl
 have Q:(E.map fun p=>(p.1,e)).all (fo c)=af↔∀q∈a.els,cz (fL q.1 q.2) k=true:=by
  rw[f.all_sub I (v.mono x)];unfold fF;rw[pD,cH];exact .rfl
 refine vn (ro:=b.c) I (g.ok.mono x) (T▸p.g) (fun p S=> ?_) (fun q u=>(p.hPr q u).elim fun l U=>⟨l,U.mono x⟩) (by rw[s,L];exact p.a)
  (by rw[s];exact ao (dc g.j _) (ao (a9 (t0 ..)) p.b)) (g.dp▸p.d) (fun e=>g.tr.elim fun X V=>p.hne (pk.mp (V▸e)).1) fun M W o=> ?_
 ·exact ay (cr.mp S) fun q u e=>(ra u).elim fun i z=>z.elim fun α β=>bK (f.at (cS α)) fun γ δ _ h=>e▸(BF γ δ k O (β▸h) (v.mono x))
 ·refine q M c _ (GB (kg w) d j W) ⟨I,x,ao P (ao (dc z _) (a9 (by rw[ev,f_ 1]))),(g.trans o.g).le (by rw[s,f_];exact bv _),o.tw,Q,fun h=> ?_,fun d j η=> ?_⟩
  ·exact(o.tl.no (h.imp (fun h=>k5.mpr h) fun h=>av (g.tel.trans h))).trans (n h)
  ·exact ft (by rw[N d j (fun e=>(by injection e))];exact lO _) o.g.N
theorem Ah (I:aW R) {t:Nat} (h:s≠t) (c:R[s]? =ac r) (d:R[t]? =ac r):False:=h (o7 I.nd c d)
section
variable{m m2:bh} {a b:aK}
theorem r5 (h:i≤j):(i !=0)=ai∨(i !=0)=af∧(j !=0)=true:=by
 induction c:(i !=0) with
 |false=>exact av rfl
 |true=>exact aI ⟨rfl,k5.mpr fun e=>k5.mp c (rx.mp (e▸h))⟩
theorem w6 (h:a.c≤b.c):db a b↔a.Fit b:=⟨fun h=>h.2,fun f=>⟨h,f⟩⟩
theorem Aq (o:a.Ok) (h:a.c≤b.c) (c:b.c=0):a.c=b.c:=by rw[c] at h⊢;exact rx.mp h
theorem Kk (o:a.c≤b.c) (r1:R[s]? =ac (.j [ae 11,ag e,ag a.c])) (f:R[t]? =ac (.j [ae 11,ag E,ag b.c]))
  (h:aE 18 268 [.l (an 2),.l (.c [bc (e,E)]),.l (ag b.c)] (m.st R) (aA r) [] (m2.st g)):aE 19 272 [.l (an 2),.l (ag s),.l (ag t)] (m.st R) (aA r) [] (m2.st g):=zo.of _ _ fun n i=>by
 have h:=h n i;rcases r5 o with c|⟨c,d⟩
 ·exact aw 33024 [.row r1,.row f,.E c,.call h]
 ·exact aw 528640 [.row r1,.row f,.E c,.E d,.call h]
theorem Ib (o:a.c≤b.c) (r1:R[s]? =ac (.j [ae 11,ag e,ag a.c])) (f:R[t]? =ac (.j [ae 12,.j (bf B),ag b.c]))
  (h:aE 19 270 [.l (an 2),.l (.j (bf [(e,2)])),.l (.j (bf B)),.l (ag b.c)] (m.st R) (aA r) [] (m2.st g)):aE 20 272 [.l (an 2),.l (ag s),.l (ag t)] (m.st R) (aA r) [] (m2.st g):=zo.of _ _ fun n i=>by
 have h:=h n i;rcases r5 o with c|⟨c,d⟩
 ·exact aw 49408 [.row r1,.row f,.E c,.call h]
 ·exact aw 790784 [.row r1,.row f,.E c,.E d,.call h]
theorem Ph (o:a.c≤b.c) (r1:R[s]? =ac (.j [ae 12,.j (bf A),ag a.c])) (f:R[t]? =ac (.j [ae 11,ag e,ag b.c]))
  (h:aE 19 271 [.l (an 2),.l (.j (bf A)),.l (ag e),.l (ag b.c)] (m.st R) (aA r) [] (m2.st g)):aE 20 272 [.l (an 2),.l (ag s),.l (ag t)] (m.st R) (aA r) [] (m2.st g):=zo.of _ _ fun n i=>by
 have h:=h n i;rcases r5 o with c|⟨c,d⟩
 ·exact aw 33024 [.row r1,.row f,.E c,.call h]
 ·exact aw 528640 [.row r1,.row f,.E c,.E d,.call h]
theorem Kr (o:a.c≤b.c) (r1:R[s]? =ac (.j [ae 12,.j (bf A),ag a.c])) (e:R[t]? =ac (.j [ae 12,.j (bf B),ag b.c]))
  (h:aE 19 270 [.l (an 2),.l (.j (bf A)),.l (.j (bf B)),.l (ag b.c)] (m.st R) (aA r) [] (m2.st f)):aE 20 272 [.l (an 2),.l (ag s),.l (ag t)] (m.st R) (aA r) [] (m2.st f):=zo.of _ _ fun n g=>by
 have h:=h n g;rcases r5 o with c|⟨c,d⟩
 ·exact aw 41216 [.row r1,.row e,.E c,.call h]
 ·exact aw 659712 [.row r1,.row e,.E c,.E d,.call h]
theorem B5 {B:List (Nat×Nat)} (j:b.Ok) (e:a.c≤b.c) (I:aW c) (x:bL R c) (z:c.length≤R.length+A.length+B.length) (f:A.length=a.els.length) (Z:B.length=b.els.length) (o:Gx R c Pr m m2 a b (a.W*B.length+1) b.c r (A=B)) (h:b.c=0→¬A=B):A9 m R Pr b (db a b) (a.W*b.els.length+1) (a.els.length+b.els.length+1) m2 c r:=by
 rw[f,Z] at z;exact⟨I,x,ao z (ao (a9 (ev ..)) (fQ _)),Z▸o.g,o.tw,o.fit.trans (w6 e).symm,o.n1,fun d g i=>o.n2 d g i (h d)⟩
theorem Hb (p:Qy R Pr m (a.W*b.els.length)) (V:cg R s a) (α:cg R t b) (ζ:a.els.length≤50) (η:b.els.length≤50) (θ:s≠t)
  {G:Prop} (q:∀m2 u r,aE 20 272 [.l (an 2),.l (ag s),.l (ag t)] (m.st R) (aA r) [] (m2.st u)→A9 m R Pr b (db a b) (a.W*b.els.length+1) (a.els.length+b.els.length+1) m2 u r→G):G:=by
 have v:=V.1;have D:=α.1;by_cases d:a.c≤b.c
 ·rcases V.m with⟨e,k,O,g,P,β⟩|⟨A,g,Q,F⟩<;>rcases α.m with⟨E,ι,i,j,γ,S⟩|⟨B,j,L,f⟩
  ·have w:fE R [(e,E)]=a.W*b.els.length:=by rw[β,S];show(ie R e).length+1=(k.length+1)*1;rw[hw p.I P,Nat.mul_one]
   have l:[(e,E)].all (fo R)=true↔db a b:=by
    rw[w6 d,S,zP v,β];show(fo R (e,E)&&true)=true↔∀q∈[(k,2)],cz (fL q.1 q.2) ι=true;unfold fo;rw[Bool.and_true,hw p.I P,hw p.I γ,List.forall_mem_singleton];exact .rfl
   refine vn (ro:=b.c) p.I p.ok p.g (fun q h=>List.mem_singleton.mp h▸⟨k,O,ι,i,P,γ⟩) p.hPr (w▸p.a) (w▸Nat.le_of_succ_le p.b) p.d p.hne fun m2 μ o=> ?_
   exact q m2 R _ ((Kk d g j μ).up (aY rfl)) ⟨p.I,.f,bu _ _,(w▸o.g).le (fQ _),o.tw,l,fun h=>o.tl.no (h.imp (fun h=>k5.mpr h) av),
    fun T δ ν=>o.tl.yes (by rw[T];rfl) δ ν fun N=>Ah p.I θ (by rw[g,Aq v d T,show e=E from N (e,E) (cU _)]) j⟩
  ·have κ:b5 R [(e,2)] a.els:=by rw[β];exact gQ P (aY rfl) g'
   have z:=L.len;refine C9 p.I p.ok p.g v D κ L (show 1≤50 by decide) (z▸η) p.n p.hPr (z▸p.a) (z▸p.b) p.d p.hne fun m2 u r C I X ε o=>q m2 u r (Ib d g j C) (B5 D d I X ε κ.len z o fun _ N=> ?_);have U:=jS D (N▸L.marks:[(e,2)].map (·.2)=_);rw[show eh [(e,2)]=ac 0 from rfl] at U;split at U
   ·exact(by injection U)
   ·exact hZ f (bD U)
  ·have W:a.W*b.els.length=a.W:=by rw[S];exact lR _
   have Z:=Q.len;refine Ki ⟨p.I,p.ok,p.g,p.n,p.hPr,W▸p.a,W▸p.b,p.d,p.hne⟩ v Q γ (Z▸ζ) fun m2 u r c o=>q m2 u r (Ph d g j c) ⟨o.I,o.x,ao o.z (cj (Z▸b3 (bu _ _)) _),W.symm▸o.g,o.w,o.iff.trans ?_,o.n1,o.n2⟩;rw[w6 d,S];exact(zP v).symm
  ·have Z:=Q.len;have z:=L.len;exact C9 p.I p.ok p.g v D Q L (Z▸ζ) (z▸η) p.n p.hPr (z▸p.a) (z▸p.b) p.d p.hne fun m2 u r C I X ε o=>q m2 u r (Kr d g j C) (B5 D d I X ε Z z o fun h N=>Ah p.I θ (by rw[g,Aq v d h,N]) j)
 ·refine bK V.head fun x y g _=>bK α.head fun ξ ο j _=> ?_;have T:(a.c !=0)=true:=k5.mpr fun e=>d (e▸cA _);have δ:(b.c !=0)=false:=by rw[rx.mp (iW (ft (f' d) v.c))];rfl
  refine q m R ai (zo.of _ _ fun n π=> ?_) ⟨p.I,.f,bu _ _,(dV.f p.ok).le (cA _),p.g,⟨(fun h=>(by injection h)),fun h=>aR h.1 d⟩,fun _=>rfl,fun _ _ h=>(by injection h)⟩;exact aw 4352 [.row g,.row j,.E T,.E δ]
end
structure w8 (m:bh) (R:List aj) (Pr:List (Nat×Nat)) (P q f:Prop) (c z:Nat) (m2:bh) (a:List aj) (r:Bool):Prop where
 I:aW a
 x:bL R a
 z:a.length≤R.length+z
 g:dV a Pr m m2 c
 w:d8 m2.tw
 iff:r=af↔P
 n0:r=ai→m2.N=m.N∧m2.tr=m.tr
 n1:(q∨m.tel=ai)→m2.N=m.N
 n2:¬q→m.tel=af→f→r=af→m.N<m2.N
section
variable{m m2:bh}
theorem L1 (h:aE k 272 [.l (an 2),.l (ag s),.l (ag t)] (m.st R) d [] (m2.st r)):aE (k+1) 7920 [.l (an 4),.l (an 2),.l (ag s),.l (ag t)] (m.st R) d [] (m2.st r):=zo.of _ _ fun n a=>by
 exact aw 0 [.call (h n a)]
theorem JG (h:a=11∨a=12) (c:b=11∨b=12):aE 1 216 [.l (ae a),.l (ae b)] Y (ae 4) [] Y:=zo.of _ _ fun n d=>by
 rcases h with rfl|rfl<;>rcases c with rfl|rfl<;>exact aw 0 []
theorem PY (h:aE k 7920 [.l (an 4),.l (an 2),.l (ag s),.l (ag t)] (m.st R) (aA r) [] (m2.st a)):aE (k+1) 199 [.l (an 2),.l (ae 4),.l (ag s),.l (ag t)] (m.st R) (aA r) [] (m2.st a):=zo.of _ _ fun n b=>by
 exact aw 3 [.call (h n b)]
theorem Qn (h:aE k 7280 [.l (an 5),.l (an 2),.l (ag s),.l (ag t)] (m.st R) (aA r) [] (m2.st a)):aE (k+1) 199 [.l (an 2),.l (ae 12),.l (ag s),.l (ag t)] (m.st R) (aA r) [] (m2.st a):=zo.of _ _ fun n b=>by
 exact aw 3 [.call (h n b)]
theorem OL (i:R[s]? =ac (.j (ae a::x))) (j:R[t]? =ac (.j (ae b::y))) (d:a=11∨a=12) (f:b=11∨b=12)
  (h:aE (k+1) 272 [.l (an 2),.l (ag s),.l (ag t)] (m.st R) (aA r) [] (m2.st l)):aE (k+4) 215 [.l (an 2),.l (ag s),.l (ag t)] (m.st R) (aA r) [] (m2.st l):=zo.of _ _ fun n g=>by
 have c:¬a=6:=fun e=>by subst e;exact aR d (by decide)
 have C:¬b=6:=fun e=>by subst e;exact aR f (by decide)
 exact aw 0 [.row i,.get (eK (a:=ae a) (x:=x)),.row j,.get (eK (a:=ae b) (x:=y)),.C c,.C C,.call (JG (Y:=m.st R) d f n (ao (gH 1 (k+2)) g)),.call (PY (L1 h) n g)]
end
theorem cg.hd (h:cg R t l):∃a x,R[t]? =ac (.j (ae a::x))∧(a=11∨a=12)∧ig (.j (ae a::x)):=by
 rcases h.m with⟨e,k,O,h,_⟩|⟨E,h,_⟩
 ·exact⟨11,_,h,.inl rfl,.c _ _⟩
 ·exact⟨12,_,h,.inr rfl,.j _ _⟩
noncomputable def kW:Option aj→Int
 |some (.j (.int a::_))=>a
 |_=>0
theorem Qm:∀j,j<16→¬kW dU[j]? =11∧¬kW dU[j]? =12:=by
 have:(cv 16).all (fun j=> !aM (kW dU[j]? =11)&& !aM (kW dU[j]? =12))=true:=by kernel_rfl
 intro j h;have:=cH.mp this j (hB.mpr h);simpa using this
theorem cg.ge (I:aW R) (h:cg R t l):16≤t:=dC fun j=>by
 refine h.hd.elim fun a z=>z.elim fun x Z=>Z.elim fun b c=>c.elim fun e _=> ?_;rw[I.at j] at b;have:=Qm t j;rw[b] at this;exact e.elim this.1 this.2
theorem Fo {t:Nat} (h:16≤t) {j:Nat} (a:j<16):¬(t:Int)=(j:Int):=fun e=>aR h (jh (dh e▸a))
theorem cg.far {R:List aj} (I:aW R) {t:Nat} (h:cg R t l):gj t∧¬(t:Int)=4∧¬(t:Int)=5:=
 have f {j:Nat} (a:j<16):¬(t:Int)=(j:Int):=Fo (h.ge I) a
 ⟨⟨f (aY rfl),f (aY rfl),f (aY rfl),f (aY rfl),f (aY rfl),f (aY rfl)⟩,f (aY rfl),f (aY rfl)⟩
theorem db.f:db a a:=⟨bv _,fun n h=>⟨h,fun p _=>by unfold cz;rw[cH];exact fun u b=>by rw[dK];exact av (ee.mpr b)⟩⟩
theorem zU (I:aW R) (d:cg R s a) (f:cg R t b) (h:j0 R (s,t) r):r=af↔db a b:=by
 rcases h with⟨k,O,_,_,p,_⟩|⟨l,L,e,E,g⟩|⟨_,O,i,L,e,_⟩
 ·exact(p.notLI d).elim
 ·rw[g,d.uniq I e,f.uniq I E]
 ·have⟨c,x,j,n,_⟩:=f.hd;exact absurd n (by rw[←show(6:Int)=c from(congrArg kW (e.symm.trans j))];decide)
theorem vg (I:aW R) (o:eC R Pr m) (w:d8 m.tw) (i:cg R s a) (d:cg R t b) (A:a.els.length≤50) (B:b.els.length≤50) (δ:R.length≤800000)
  (ε:∀p∈Pr,∃l,cg R p.1 l) (ζ:(s,t)∉Pr) (P:m.a+a.W*b.els.length+1≤20000) (N:m.N+a.W*b.els.length+1≤90000) (S:m.dp<58) (η:m.tr≠[]∨Pr=[])
  {G:Prop} (q:∀m2 v r,aE 26 4921 [.l (an 2),.l (ag s),.l (ag t)] (m.st R) (aA r) [] (m2.st v)→w8 m R Pr (db a b) (b.c≠0∨s=t) ((s,t)∉m.tr∧((s,t),af)∉m.K) (a.W*b.els.length+2) (a.els.length+b.els.length+1) m2 v r→G):G:=by
 have g:=(dV.f o).le (cA (a.W*b.els.length+2));by_cases y:s=t
 ·subst y;cases i.uniq I d;exact q m R af ((nK xL).up (aY rfl)) ⟨I,.f,bu _ _,g,w,⟨fun _=>.f,fun _=>rfl⟩,(fun h=>(by cases h)),fun _=>rfl,fun h=>aR (aI rfl) h⟩
 refine i.hd.elim fun C z=>z.elim fun x Z=>Z.elim fun E n=>n.elim fun U θ=>d.hd.elim fun σ z=>z.elim fun X Z=>Z.elim fun L n=>n.elim fun V ι=> ?_;have f:=i.far I
 have F {k:Nat} (j:k≤24) {D:bh} {W:List aj} {r:Bool} (h:aE k 205 [.l (an 2),.l (ag s),.l (ag t)] (m.st R) (aA r) [] (D.st W)):aE 26 4921 [.l (an 2),.l (ag s),.l (ag t)] (m.st R) (aA r) [] (D.st W):=
  nK (v1 (fun e=>y (dh e)) E θ L ι ((Nm (m:=m) f.1 (d.far I).1 f.2.1 f.2.2 E L U V).up (aY rfl)) (h.up j) (aY rfl))
 cases j:m.K.lookup (s,t) with
 |some κ=>exact q m R κ (F (aY rfl) (Bj j)) ⟨I,.f,bu _ _,g,w,zU I i d (o.kok _ (tg j)),fun _=>⟨rfl,rfl⟩,fun _=>rfl,fun _ _ h d=>aR (tg j) (d▸h.2)⟩
 |none=>
  by_cases u:(s,t)∈m.tr
  ·exact q m R af (F (aY rfl) (y2 j u)) ⟨I,.f,bu _ _,g,w,zU I i d (o.aok _ u ζ),(fun h=>(by cases h)),fun _=>rfl,fun _ _ h=>aR u h.1⟩
  ·have α:=ft (t4 (bu _ _)) P;refine Hb ⟨I,w1 o j u α,w,δ,fun p μ=>(eS.mp μ).elim (fun e=>⟨a,e▸i⟩) (ε p), ?_,N,D' S,fun e=>nomatch(pk.mp e).2⟩ i d A B y fun m2 v r c T=> ?_
   ·show m.a+1+_≤_;rw[t0];exact P
   refine(vH o T.x j u (aY rfl) α (rt S (aY rfl)) η (OL E L U V c) T.g (aI (av ⟨a,b,i.mono T.x,d.mono T.x,T.iff⟩))).elim fun D z=>z.elim fun ν Z=>Z.elim fun ξ n=>n.elim fun ο π=>π.elim fun Q β=>q D v r (F (aY rfl) ν) ⟨T.I,T.x,T.z,ξ,ο▸T.w,T.iff,β,fun h=> ?_,fun h ρ _ γ=> ?_⟩
   ·cases r with
    |false=>exact(β rfl).1
    |true=>rw[Q rfl];exact T.n1 (h.imp (fun h=>h.resolve_right y) id)
   ·rw[Q γ];exact T.n2 (gl fun e=>h (av e)) ρ γ
theorem qC {a:Nat}:f7 (ac (a:Int)) ah (.c l)=ac (.c (l.drop a)):=by
 show ac (aj.c (dF l (ac (a:Int)) ah))=_;unfold dF lG;simp only[gG,if_true,py,D4];by_cases h:a≤l.length
 ·rw[ua h]
 ·rw[x' (by exact cD (.c 1 (.a .b .n1) .f (.g 1 .b .f)) rfl (f' h)),Rn (by exact dN (.g 1 .b .b) rfl),Rn (by exact cD (.c 1 (.a .b .n1) .f (.g 1 .b .f)) rfl (f' h))]
noncomputable def iP (K:List ((Nat×Nat)×Bool)) (tr:List (Nat×Nat)) (p:Nat×Nat):List (Nat×Nat):=if p∉tr∧K.lookup p=ah then tr++[p] else tr
noncomputable def jc (K:List ((Nat×Nat)×Bool)) (tr X:List (Nat×Nat)):List (Nat×Nat):=X.foldl (iP K) tr
theorem Qk (K:List ((Nat×Nat)×Bool)):∀(X tr:List (Nat×Nat)),tr.Nodup→(∀p∈tr,K.lookup p=ah)→(jc K tr X).Nodup∧(∀p∈jc K tr X,K.lookup p=ah)∧(∃y,jc K tr X=tr++y)∧(∀p∈jc K tr X,p∈tr∨p∈X)∧(jc K tr X).length≤tr.length+X.length:=by
 intro X;induction X with
 |nil=>
  exact fun tr d f=>⟨d,f,⟨[],by simp[jc]⟩,fun p j=>av j,bv _⟩
 |cons p X i=>
  intro tr d f;have k:(iP K tr p).Nodup∧(∀q∈iP K tr p,K.lookup q=ah)∧(∃y,iP K tr p=tr++y)∧(∀q∈iP K tr p,q∈tr∨q=p)∧(iP K tr p).length≤tr.length+1:=by
   unfold iP;split
   ·rename_i h;refine kS (ke.mpr ⟨d,by simp,fun a l b m e=>h.1 (by rw[bW.mp m] at e;exact e▸l)⟩) (fun q c=> ?_) (⟨[p],rfl⟩) (fun q c=> ?_) (by simp)
    ·rcases dD.mp c with c|c
     ·exact f q c
     ·rw[List.mem_singleton.mp c];exact h.2
    ·rcases List.mem_append.mp c with c|c
     ·exact .inl c
     ·exact .inr (List.mem_singleton.mp c)
   ·exact⟨d,f,⟨[],by simp⟩,fun q c=>.inl c,by exact dN (.g 1 .b (.a .b .n1)) rfl⟩
  refine i6 k fun A n g o r=> ?_;obtain⟨y,s⟩:=g;refine i6 (i (iP K tr p) A n) fun B t g u v=> ?_;obtain⟨Z,w⟩:=g;refine kS B t (⟨y++Z,by show jc K (iP K tr p) X=_;rw[w,s,ef]⟩) (fun q c=> ?_) (by simp;exact b8 (.c 1 .b (.a .f .n1) (.c 1 .g (.a .b .j) (.g 1 .g (.a .f (.a .j .n1))))) rfl r v);rcases u q c with h|h
  ·rcases o q h with h|h
   ·exact .inl h
   ·exact .inr (by simp[h])
  ·exact .inr (by simp[h])
theorem dV.cut (o:eC R Pr m) (x:bL R r) (g:dV r Pr m M c):dV r Pr m {M with N:=m.N,tr:=m.tr} c:=by
 refine g.tr.elim fun X a=> ?_;have b:M.tr.length=m.tr.length+X.length:=by rw[a];simp
 have z:=ao (bu m.tr.length X.length) (a9 b.symm);exact⟨⟨o.nd,fun p h=>g.ok.kt p (by rw[a];exact cG _ h),g.ok.kok,fun p h q=>(o.aok p h q).mono x,ao (cj z _) g.ok.len,g.ok.a,o.N⟩,g.dp,bv _,bu ..,g.tel,g.n,g.l,⟨[],(c8 _).symm⟩,ao (dc (cj z _) _) g.i,g.kf⟩
theorem dV.laid (g:dV R Pr m M c) (t:M.tr=m.tr) (b:M.N=m.N) (d:k≤c) (o:m.N+c≤100000) (r:∀p∈X,p∉Pr→j0 R p af) (e:M.K.length+X.length+m.a≤M.a+m.K.length) (s:m.K.length+m.tr.length≤m.a):
  dV R Pr m {M with N:=M.N+k,tr:=jc M.K M.tr X} c∧(jc M.K M.tr X).length≤M.tr.length+X.length:=by
 refine i6 (Qk M.K X M.tr g.ok.nd g.ok.kt) fun A u y v a=> ?_;obtain⟨w,x⟩:=y;refine⟨⟨⟨A,u,g.ok.kok,fun p z q=> ?_, ?_,g.ok.a,ao (dd (a9 b) d) o⟩,g.dp,ao (a9 b.symm) (bu ..),dd (a9 b) d,g.tel,g.n,g.l,⟨w,by rw[x,t]⟩, ?_,g.kf⟩,a⟩
 ·rcases v p z with h|h
  ·exact g.ok.aok p h q
  ·exact r p h q
 ·rw[t] at a⊢;exact lB (.c 1 .b (.a .f .g) (.c 1 (.a (.a .j .g) .l) (.a .o .p) (.c 1 (.a .p .f) .l (.g 1 (.a .j .b) .o)))) rfl a e s
 ·rw[t] at a⊢;exact lB (.c 1 .b (.a .f .g) (.c 1 (.a (.a .j .g) .l) (.a .o .p) (.g 1 (.a (.a .j .b) .l) (.a (.a .o .p) .f)))) rfl a e
noncomputable def lp:aj:=.j [ae 3,ae 0]
noncomputable def oX (X:List (Nat×Nat)) (k:Nat):aj:=.j [.c (cx k lp),.c (X.map bc)]
theorem M2 {m:bh} (o:m.N+k≤1000000) (q:m.tr.length+X.length≤100000):
  aE 1 219 [.l (an 2),.l (oX X k)] (m.st R) a4 [] ({m with N:=m.N+k,tr:=jc m.K m.tr X}.st R):=zo.of _ _ fun n v=>by
 have G:fJ 4 (.c (cx m.N lp)) [.c (cx k lp)]=ac (a4,.c (cx (m.N+k) lp)):=by
  rw[←List.replicate_append_replicate];exact aJ (by rw[kX,kX];exact o)
 obtain⟨T,⟨rfl,_⟩,L⟩:=hm (n:=n) (g:=219) (b:=ah) [1] bc X (fun _ _=>[(27,.l (an 2)),(40,.l (oX X k))]) (fun _ T=>{m with N:=m.N+k,tr:=T}.st R) (fun d T=>T=jc m.K m.tr d∧T.length≤m.tr.length+d.length) m.tr ⟨rfl,bv _⟩ rfl
  (fun D p r T e z=>z.elim fun E c=>by
   have f:T.length≤1000000:=ao c (ao (cj (by rw[e,bi];exact bu _ _) _) (aD q rfl));have s:jc m.K m.tr (D++[p])=iP m.K T p:=by rw[E];exact re
   have t:(iP m.K T p).length≤m.tr.length+(D++[p]).length:=by
    rw[bi];refine ao ?_ (b3 c);unfold iP;split
    ·exact ak bi (bv _)
    ·exact fQ _
   refine hK (iP m.K T p) a' (⟨s.symm,t⟩) (av rfl) (?_) rfl;have i:=w' (p:=p) (l:=T);have I:=qp (p:=p) (l:=m.K);unfold iP;by_cases a:p∈T
   ·have i:=cu a▸i;refine ak (aL fun h=>h.1 a) ?_;exact bq 0 [.has i]
   ·rw[cP a] at i;induction j:m.K.lookup p with
    |some b=>
     rw[j] at I;refine ak (aL fun h=>nomatch h.2) ?_;exact bq 0 [.has i,.has I]
    |none=>
     rw[j] at I;refine ak (aJ ⟨a,rfl⟩) ?_;have u:fJ 3 (.c (T.map bc)) [bc p]=ac (a4,.c ((T++[p]).map bc)):=by
      rw[cd];exact aJ (by rw[aB];exact f)
     exact bq 0 [.has i,.has I,.set (w2 a f),.u u])
 exact aw 17 [.u G,.sub L]
structure wW (m:bh) (R:List aj) (Pr:List (Nat×Nat)) (c z:Nat) (m1:bh) (r:List aj):Prop where
 I:aW r
 x:bL R r
 z:r.length≤R.length+z
 g:dV r Pr m m1 c
 w:d8 m1.tw
 t:m1.tr=m.tr
 N:m1.N=m.N
noncomputable def BR (d:aj):aj→aj
 |.none=>d
 |h=>h
noncomputable def my (s:Nat) (X h:aj):au:=[(27,.l (an 2)),(29,.l (ag s)),(23,.l X),(40,.l h)]
section
variable{m1 m2:bh}
abbrev v3 (n s j:Nat) (X h:aj) (Y:ar) (f:cR) (h':aj) (st':ar):Prop:=ff n 218 [1] (hn (my s X a4)) (ag j) (my s X h) Y f (my s X h') st'
theorem OW (mk:aZ n 4924 [.l (an 2)] (m1.st R) (.j [ag m1.N,ag m1.tr.length]) [] (m1.st R)) (a:aZ n 4921 [.l (an 2),.l (ag s),.l (ag j)] (m1.st R) (aA ai) [] (m2.st r)):v3 n s j X h (m1.st R) a' h (m2.st r):=by
 exact bq 0 [.call mk,.call a]
theorem M8 (mk:aZ n 4924 [.l (an 2)] (m1.st R) (.j [ag m1.N,ag m1.tr.length]) [] (m1.st R)) (a:aZ n 4921 [.l (an 2),.l (ag s),.l (ag j)] (m1.st R) (aA af) [] (m2.st r)) (hz:m2.N≤1000000) (e:m2.N=m1.N):v3 n s j X h (m1.st R) (.h (aA af)) h (m2.st r):=by
 exact bq 4352 [.call mk,.call a,.p (ds:=cx m2.N lp) kX (aD hz rfl),.x (i:=m2.N) (b:=af) (by refine ak e ?_;exact iX _)]
theorem Ht (mk:aZ n 4924 [.l (an 2)] (m1.st R) (.j [ag m1.N,ag m1.tr.length]) [] (m1.st R)) (a:aZ n 4921 [.l (an 2),.l (ag s),.l (ag j)] (m1.st R) (aA af) [] (m2.st r)) (hz:m2.N≤1000000) (e:m2.N≠m1.N)
  (d:m2.tr=m1.tr++y) (b:aZ n 4925 [.l (an 2),.l (.j [ag m1.N,ag m1.tr.length])] (m2.st r) a4 [] ({m2 with N:=m1.N,tr:=m1.tr}.st r)) (f:h=a4∨∃k X,h=oX X k):
  v3 n s j X h (m1.st R) a' (BR (oX y (m2.N-m1.N)) h) ({m2 with N:=m1.N,tr:=m1.tr}.st r):=by
 have c:=c5.mpr e;have l:m2.N≤16777216:=aD hz rfl;rcases f with rfl|⟨k,x,rfl⟩
 ·have S:f7 (some (m1.N:Int)) none (.c (List.replicate m2.N lp))=some (.c (List.replicate (m2.N-m1.N) lp)):=by rw[qC,List.drop_replicate]
  have g:f7 (some (m1.tr.length:Int)) none (.c (m2.tr.map bc))=some (.c (y.map bc)):=by rw[qC,d,List.map_append,List.drop_left' (List.length_map _)]
  exact bq 1184000 [.call mk,.call a,.p (ds:=List.replicate m2.N lp) List.length_replicate l,.x c,.cut S,.cut g,.call b]
 ·exact bq 69888 [.call mk,.call a,.p (ds:=List.replicate m2.N lp) List.length_replicate l,.x c,.call b]
end
section
variable{P q:Nat→Prop} {z:Nat}
structure AY (m:bh) (Pr:List (Nat×Nat)) (P q:Nat→Prop) (c:Nat) (D:List Nat) (R:List aj) (m1:bh) (k:Nat) (X:List (Nat×Nat)):Prop where
 a:0<k
 d:k≤c*D.length
 e:∃j∈D,P j
 h3:∀j∈D,P j→¬q j
 h4:m.tel=af
 h5:∀p∈X,p∉Pr→j0 R p af
 b:m1.K.length+X.length+m.a≤m1.a+m.K.length
 f:X.length≤50000
def G_ (m:bh) (Pr:List (Nat×Nat)) (P q:Nat→Prop) (c:Nat) (d:List Nat) (R:List aj) (m1:bh) (h:aj):Prop:=(h=a4∧∀j∈d,¬P j)∨∃k X,h=oX X k∧AY m Pr P q c d R m1 k X
theorem ja {B:c→Prop} (h:∀i∈d,B i) (a:B j):∀i∈d++[j],B i:=fun i b=>(dD.mp b).elim (h i) fun e=>bW.mp e▸a
theorem AY.more {m1:bh} (h:AY m Pr P q c D R m1 k X) (x:bL R r) (g:P j→¬q j) (n:m2.K.length+m1.a≤m2.a+m1.K.length):AY m Pr P q c (D++[j]) r m2 k X:=
 ⟨h.a,by refine ak bi ?_;exact ao h.d (fh _ (bu _ _)),ay h.e fun i o l=>⟨i,cG _ o,l⟩,ja h.h3 g,h.h4,fun p l g=>(h.h5 p l g).mono x,by have:=h.b;exact lB (.c 1 (.a .b .f) (.a .g .j) (.c 1 (.a (.a .j .l) .o) (.a .f .p) (.g 1 (.a (.a .b .l) .o) (.a .g .p)))) rfl n this,h.f⟩
structure KM (m:bh) (R:List aj) (Pr:List (Nat×Nat)) (P q:Nat→Prop) (c z:Nat) (d:List Nat) (x:(bh×List aj)×aj):Prop where
 g:wW m R Pr (c*d.length) (z*d.length) x.1.1 x.1.2
 H:G_ m Pr P q c d x.1.2 x.1.1 x.2
theorem wW.snoc (a:wW m R Pr (c*d.length) (z*d.length) m1 b) (i:aW r) (x:bL b r) (hz:r.length≤b.length+z) (g:dV r Pr m m2 (c*d.length+c)) (w:d8 m2.tw) (t:m2.tr=m.tr) (N:m2.N=m.N):wW m R Pr (c*(d++[j]).length) (z*(d++[j]).length) m2 r:=ak bi (⟨i,a.x.trans x,ao hz (ao (dc a.z z) (a9 (ev ..))),g,w,t,N⟩)
theorem Co (I:aW R) (μ:eC R Pr m) (χ:d8 m.tw) {js:List Nat} {X:aj} (ν:X=.j (js.map ag)∨X=.c (js.map ag)) (ψ:m.tr≠[]∨m.tel=ai) (γ:2≤k)
  (ε:∀j∈js,∀m1 ξ i,i+1≤js.length→wW m R Pr (c*i) (z*i) m1 ξ→∀D:Prop,
   (∀m2 U r,aE k 4921 [.l (an 2),.l (ag s),.l (ag j)] (m1.st ξ) (aA r) [] (m2.st U)→w8 m1 ξ Pr (P j) (q j) ((s,j)∉m1.tr∧((s,j),af)∉m1.K) c z m2 U r→D)→D)
  (a₇:m.a+c*js.length≤20000) (ο:m.N+c*js.length≤90000)
  {G:Prop} (Q:∀m2 U r,aE (k+1) 218 [.l (an 2),.l (ag s),.l X] (m.st R) (aA r) [] (m2.st U)→w8 m R Pr (∃j∈js,P j) (∃j∈js,P j∧q j) (∀j∈js,(s,j)∉m.tr∧((s,j),af)∉m.K) (c*js.length) (z*js.length) m2 U r→G):G:=by
 have ω {d τ:List Nat} {j:Nat} (e:js=d++j::τ):d.length+1≤js.length:=ak e (ak bi (cj (b3 (cA _)) _))
 refine p5 (N:=(k≤·)) (g:=218) (b:=ah) [1] ag js (fun x=>my s X x.2) (fun x=>x.1.1.st x.1.2) (KM m R Pr P q c z)
  (fun f x=>f=a'∧KM m R Pr P q c z js x∨f=.h (aA af)∧w8 m R Pr (∃j∈js,P j) (∃j∈js,P j∧q j) (∀j∈js,(s,j)∉m.tr∧((s,j),af)∉m.K) (c*js.length) (z*js.length) x.1.1 x.1.2 af)
  ((m,R),a4) ⟨⟨I,.f,bv _,.f μ,χ,rfl,rfl⟩,av ⟨rfl,fun _ h=>(by cases h)⟩⟩ rfl (fun d j τ x e v D υ a₀=> ?_) (fun x h=>av ⟨rfl,h⟩) fun f x h w=> ?_
 ·have δ:=eO e;have l:=ω e;have π {n:Nat} (u:k≤n):=u_ (R:=x.1.2) (aD (v.g.N▸ao (bu _ _) ο) rfl) (aD v.g.g.ok.small.tr rfl) n (ao (kg γ) u);refine ε j δ x.1.1 x.1.2 d.length l v.g _ fun m2 U r a A=> ?_;have t:=v.g.g.trans A.g;have ζ:=A.g.i;induction r with
  |false=>
   refine(A.n0 rfl).elim fun a₁ T=> ?_;have o:¬P j:=fun L=>nomatch A.iff.mpr L;refine υ ((m2,U),x.2) ⟨v.g.snoc A.I A.x A.z t A.w (T.trans v.g.t) (a₁.trans v.g.N),v.H.imp (fun D=>⟨D.1,ja D.2 o⟩) fun z=>bK z fun i V E D=>cL i V E (D.more A.x (fun L=>aR L o) ?_)⟩ rfl fun n u=>OW (π u) (a n u);rw[T] at ζ;exact e6 (.c 1 (.a (.a .b .f) .g) (.a (.a .j .l) .f) (.g 1 (.a .b .g) (.a .j .l))) rfl ζ
  |true=>
   have ρ:=A.iff.mp rfl;have S:=A.g.ok.small.N;by_cases W:m2.N=x.1.1.N
   ·refine a₀ (.h (aA af)) ((m2,U),x.2) (aI ⟨rfl,A.I,v.g.x.trans A.x, ?_,t.le (fh c l),A.w,⟨fun _=>⟨j,δ,ρ⟩,fun _=>rfl⟩,(fun h=>(by injection h)),fun _=>W.trans v.g.N,fun η θ φ _=> ?_⟩) rfl fun n u=>M8 (π u) (a n u) S W
    ·exact ao A.z (ao (dc v.g.z z) (ao (a9 (ev ..)) (cj (fh z l) _)))
    ·have a₂:=ψ.resolve_right fun h=>nomatch θ.symm.trans h;exact aR W (lP (A.n2 (fun α=>η ⟨j,δ,ρ,α⟩) (v.g.g.tel.trans θ) ⟨v.g.t▸(φ j δ).1,fun γ=>(v.g.g.kf a₂ _ γ).elim (φ j δ).2 fun e=>(by injection e)⟩ rfl))
   ·have θ:=gl fun h=>W (A.n1 (aI (v.g.g.tel.trans (nV.mpr h))));have η:=fun α=>W (A.n1 (av α));refine A.g.tr.elim fun y ι=> ?_;have κ:=aS gK ι;rw[bi] at κ;have Z:=A.g.ok.small.tr;have B {n:Nat} (u:k≤n):=Iy (R:=U) A.g.ok.nd A.g.N (κ▸bu _ _) (jg Z (by decide)) n (ao γ u);rw[ι,ub] at B;have a₃:m2.K.length+x.1.1.a+y.length≤m2.a+x.1.1.K.length:=by rw[κ] at ζ;exact jR (.c 1 (.a (.a .b (.a .f .g)) .j) (.a (.a .l .o) .f) (.g 1 (.a (.a .b .j) .g) (.a .l .o))) rfl ζ
    refine υ (({m2 with N:=x.1.1.N,tr:=x.1.1.tr},U),BR (oX y (m2.N-x.1.1.N)) x.2) ⟨?_, ?_⟩ rfl fun n u=>Ht (π u) (a n u) S W ι (B u) (v.H.imp (·.1) fun z=>bK z fun i V E _=>o_ i V E)
    ·have a₄:=t.cut μ (v.g.x.trans A.x);exact ak v.g.N (ak v.g.t (v.g.snoc A.I A.x A.z a₄ A.w rfl rfl))
    ·rcases v.H with⟨E,o⟩|⟨i,V,E,D⟩
     ·refine .inr ⟨m2.N-x.1.1.N,y,by refine ak E ?_;rfl,Nat.sub_pos_of_lt (Nat.lt_of_le_of_ne A.g.N fun e=>W e.symm), ?_,bd j (List.mem_append_right _ (.head _)) ρ,ja (fun i a₅ L=>absurd L (o i a₅)) fun _=>η,θ,fun p L α=>A.g.ok.aok p (ι▸List.mem_append_right _ L) α, ?_,Nat.le_trans (κ▸Nat.le_add_left _ _) Z⟩
      ·exact ak List.length_append (Nat.le_trans (Nat.sub_le_iff_le_add'.mpr A.g.j) (Nat.le_add_left _ _))
      ·have a₆:=v.g.g.i;rw[v.g.t] at a₆;lia
     ·exact .inr (cL i V (by refine ak E ?_;rfl) (D.more A.x (fun _=>η) (Nat.le_trans (Nat.le_add_right _ _) a₃)))
 ·have β {n:Nat} (u:k≤n) (w:cc bw (aZ n) (dS 218 [1] none (js.map ag) (my s X .none) (m.st R)) f (my s X x.2) (x.1.1.st x.1.2)) {F:cR} (e:f=F):cc bw (aZ n) (dS 218 [1] none (js.map ag) (my s X .none) (m.st R)) F (my s X x.2) (x.1.1.st x.1.2):=e▸w;rcases h with⟨e,h⟩|⟨e,h⟩
  ·rcases h.H with⟨E,o⟩|⟨i,V,E,D⟩
   ·refine Q x.1.1 x.1.2 false (zo.of _ _ fun n u=> ?_) ⟨h.g.I,h.g.x,h.g.z,h.g.g,h.g.w,⟨(fun h=>(by injection h)),fun z=>ay z fun j σ L=>absurd L (o j σ)⟩,fun _=>⟨h.g.N,h.g.t⟩,fun _=>h.g.N,fun _ _ _ h=>(by injection h)⟩;have w:=β u (w n u) e;rw[E] at w;clear h e β ε Q E o;rcases ν with rfl|rfl<;>exact aw 0 [.sub w]
   ·have l:=h.g.g.laid h.g.t h.g.N D.d (aD ο rfl) D.h5 D.b μ.len;refine Q {x.1.1 with N:=x.1.1.N+i,tr:=jc x.1.1.K x.1.1.tr V} x.1.2 true (zo.of _ _ fun n u=> ?_) ⟨h.g.I,h.g.x,h.g.z,l.1,h.g.w,⟨fun _=>D.e,fun _=>rfl⟩,(fun h=>(by injection h)),(fun h=> ?_),fun _ _ _ _=> ?_⟩
    ·have C:=M2 (R:=x.1.2) (by refine ak h.g.N ?_;exact Nat.le_trans (Nat.add_le_add_left D.d _) (aD ο rfl)) (Nat.add_le_add h.g.g.ok.small.tr D.f) n (Nat.le_trans (Nat.le_of_succ_le γ) u);have w:=β u (w n u) e;rw[E] at w;clear h e β ε Q D l E;rcases ν with rfl|rfl<;>exact aw 16 [.sub w,.call C]
    ·exact h.elim (fun z=>eB z fun j σ L α=>absurd α (D.h3 j σ L)) fun h=>nomatch D.h4.symm.trans h
    ·refine ak h.g.N ?_;exact Nat.lt_add_of_pos_right D.a
  ·refine Q x.1.1 x.1.2 af (zo.of _ _ fun n u=> ?_) h;have w:=β u (w n u) e;clear h e β ε Q;rcases ν with rfl|rfl<;>exact aw 0 [.sub w]
end
noncomputable def dG (p:Nat):aj:=bP (gp (toString p))
theorem NA {P:Nat→Prop}:p<0→P p:=fun h=>aR h (rn _)
theorem s8 {P:Nat→Prop} (h:∀{p},p<n→P p) (a:P n) (b:p<n+1):P p:=(x3 (iW b)).elim h fun e=>e▸a
theorem l7 {P:Nat→Prop} (h:P 0) (a:P 1) (b:P 2):∀{p},p<3→P p:=s8 (s8 (s8 NA h) a) b
theorem te {p:Nat} (a:p<3):aE 1 236 [.l (dG p)] Y (aA af) [] Y:=by
 refine l7 (P:=fun p=>aE 1 236 [.l (dG p)] Y (aA af) [] Y) ?_ ?_ ?_ a
 all_goals
  refine zo.of _ _ fun n b=> ?_;have C (p:Nat) (h:∀q∈[p],iD (dw bw (aZ n) 57) (kx 236 [0] 0 57 (dG q) [(50,.l (dG p))] Y) [aA af] [(50,.l (dG p))] Y):=fI [0] 0 57 dG [p] (fun _=>[aA af]) [(50,.l (dG p))] Y h
 ·have c:=C 0 (tU.mpr (by exact cZ 0 []));exact aw 1 [.sub c]
 ·have c:=C 1 (tU.mpr (by exact cZ 0 []));exact aw 1 [.sub c]
 ·have c:=C 2 (tU.mpr (by exact cZ 0 []));exact aw 1 [.sub c]
theorem Ob {p:Nat} (h:p<3):aE 1 237 [.l (dG p)] Y (ag p) [] Y:=by
 refine l7 (P:=fun p=>aE 1 237 [.l (dG p)] Y (ag p) [] Y) ?_ ?_ ?_ h<;>refine zo.of _ _ fun n a=> ?_
 ·exact aw 0 []
 ·exact aw 0 []
 ·exact aw 0 []
theorem K3 {p:Nat} (a:p<3):aE 2 238 [.l (dG p)] Y (aA af) [] Y:=by
 refine l7 (P:=fun p=>aE 2 238 [.l (dG p)] Y (aA af) [] Y) ?_ ?_ ?_ a<;>refine zo.of _ _ fun n h=> ?_
 ·exact aw 3 [.call (te (Y:=Y) (p:=0) (aY rfl) n h)]
 ·exact aw 3 [.call (te (Y:=Y) (p:=1) (aY rfl) n h)]
 ·exact aw 3 [.call (te (Y:=Y) (p:=2) (aY rfl) n h)]
theorem NF:aE 1 6295 [.l (an 1),.l (ag t),.l d] Y a4 [] Y:=zo.of _ _ fun n h=>by
 exact aw 0 []
section
theorem N3 (h:R[i]? =ac (.j (ae a::x))) (k:a=11∨a=12):aE 2 228 [.l (an 1),.l (ag i)] (aF R::bF::J) (.c [ag i]) [] (aF R::bF::J):=zo.of _ _ fun n l=>by
 obtain⟨f,L,s,⟨rfl,rfl,rfl⟩,w⟩:=wl (n:=n) (g:=228) [3] (fun b:Bool=>[(34,.l (an 1)),(19,.l (ag i)),(13,bE (.c (if b then[] else[ag i]))),(46,bE (.e (if b then[] else b7 [i]))),(47,bE (.c (if b then[ag i] else[])))]) (fun _=>aF R::bF::J) (fun _=>True) (fun b=>if b then 1 else 0)
  (fun f L s=>f=a'∧L=[(34,.l (an 1)),(19,.l (ag i)),(13,bE (.c [ag i])),(46,bE (.e (b7 [i]))),(47,bE (.c []))]∧s=aF R::bF::J) af trivial (aY rfl) rfl fun b _=>by
  cases b with
  |true=>
   refine av ⟨ai,a',trivial,pB,av rfl, ?_⟩;have c:=kJ (t:=i) (Y:=aF R::bF::J) n l;have d:=tC (i:=i) (G:=[]);have e:=qc (i:=i) (G:=[]) (cA _);have j:(wk.k a6 (.j [ag i]) (.j [ag i])).e=ac true:=by
    show ac ((ag i).beq (ag i)&&af)=_;rw[mh,cu rfl];rfl
   rcases k with rfl|rfl
   ·exact bq 17825794 [.call c,.has d,.set e,.row h,.get (eK (a:=.int 11) (x:=x)),.get (eK (a:=.int 11) (x:=x)),.z j]
   ·exact bq 17825794 [.call c,.has d,.set e,.row h,.get (eK (a:=.int 12) (x:=x)),.get (eK (a:=.int 12) (x:=x)),.z j]
  |false=>exact aI ⟨.o,_,_,rfl,by exact bq 0 [],rfl,rfl,rfl⟩
 exact aw 0 [.sub w]
noncomputable def tc (E:List (Nat×Nat)):Nat:=(eh E).getD E.length
theorem CS {E:List (Nat×Nat)} (a:E.length≤100000) (f:∀q∈E,q.2<3):aE 1 234 [.l (.j [ae 12,.j (bf E),r])] Y (ag (tc E)) [] Y:=zo.of _ _ fun n k=>by
 have d:E.length≤16777216:=aD a rfl;have l:=ma (n:=n) (g:=234) (b:=ah) [1] (fun p=>ag p.2) E.zipIdx (fun p=>if aM (2≤p.1.2) then ac (ag p.2) else ah) [(20,.l (.j [ae 12,.j (bf E),r]))] Y rfl rfl fun j h=>by
  have h:=nH h;have I:cX (ag j.1.2) (.j [ae 2,ae 3])=ac (aM (2≤j.1.2)):=by
   exact l7 (P:=fun m=>cX (ag m) (.j [ae 2,ae 3])=ac (aM (2≤m))) rfl rfl rfl (f j.1 (eR h))
  cases c:aM (2≤j.1.2)<;>rw[c] at I<;>exact bq 17 [.get (nt (hN h)),.has I]
 rw[vY,←la] at l;unfold tc;cases e:eh E with
 |none=>rw[e] at l;exact aw 4099 [.G ec d,.le a,.sub l,.G ec d]
 |some i=>rw[e] at l;exact aw 3 [.G ec d,.le a,.sub l]
noncomputable def aK.rd (a:aK) (p:Nat):Option (List Nat):=
 if p<a.hs.length then a.hs[p]?else if p<a.fr then(a.os[p-a.hs.length]?).map fun k=>cM (k++[8]) else if a.rs=[] then ah else ac (cM (a.rs++a.ts).flatten)
theorem J5 {a:aK} (o:a.Ok) (h:p<a.fr):∃k mk,a.els[p]? =ac (k,mk)∧a.rd p=ac (fL k mk):=by
 refine(oU o).elim fun b z=>z.elim fun d _=> ?_;unfold aK.rd;by_cases c:p<a.hs.length
 ·refine⟨_,0,b p c, ?_⟩;rw[aJ c,cS c];rfl
 ·have C:=tV (dC c) h;have e:=d _ C;rw[rb (dC c)] at e;refine⟨_,1,e, ?_⟩;rw[aL c,aJ h,cS C];rfl
theorem CT {a:aK} (o:a.Ok) (h:E.map (·.2)=a.els.map (·.2)):tc E=a.fr:=by
 unfold tc;rw[jS o h];by_cases r:a.rs=[]
 ·rw[aJ r];have:=mD h;rw[r,qT o r] at this;exact this
 ·rw[aL r];rfl
theorem Lu {a:aK}:a.els.drop a.fr=a.rs.map (·,2)++a.ts.map (·,0):=by
 unfold aK.els aK.fr;rw[ef (a.hs.map _++a.os.map _),Si (by rw[bi,aB,aB])]
theorem b5.drop (n:Nat) (h:b5 R E l):b5 R (E.drop n) (l.drop n):=by
 induction h generalizing n with
 |nil=>rw[Sv,Sv];exact g'
 |cons a b h i=>cases n with
  |zero=>exact gQ a b h
  |succ n=>exact i n
theorem b5.d (h:b5 R E l):∃qs:List (Nat×List Nat×List Nat),qs.map (fun q=>ag q.1)=E.map (fun p=>ag p.1)∧(∀q∈qs,bH R q.1 q.2.1 q.2.2)∧qs.map (·.2.1)=l.map (·.1):=by
 induction h with
 |nil=>exact⟨[],rfl,(fun _ h=>nomatch h),rfl⟩
 | @cons e m k O E l a _ _ i=>
  exact i.elim fun qs z=>z.elim fun b Z=>Z.elim fun f g=>⟨(e,k,O)::qs,aS (ag e::·) b,fun q j=>(eS.mp j).elim (fun e=>e▸a) (f q),aS (k::·) g⟩
noncomputable def Bc:Option Nat→aj
 |none=>ae (-1)
 |some t=>ag t
noncomputable def IW (R:List aj):Option (List Nat)→Option Nat→Prop
 |none,none=>True
 |some k,some t=>∃O,bH R t k O
 |_,_=>False
def qi (J:ar) (R:List aj) (k g:Nat) (a:List fO) (d:Option (List Nat)) (z:Nat):Prop:=∀{G:Prop},(∀o r,aE k g a (aF R::bF::J) (Bc o) [] (aF r::bF::J)→aW r→bL R r→r.length≤R.length+z→IW r d o→G)→G
end
section
variable{R:List aj} {J:ar}
theorem E8 {E:List (Nat×Nat)} {l:List (List Nat×Nat)} {r:aj} {i:Nat} {Y:ar} (I:aW R) (f:b5 R E l) (j:l≠[]) (z:E.length≤50) (o:R.length≤900000) {x:aj}
  (c:aE 1 234 [.l (.j [ae 12,x,r])] (aF R::bF::J) (ag i) [] (aF R::bF::J)) (s:f7 (ac (i:Int)) ah (match x with|.j l=>.j l|_=>.j [])=ac (.j (bf E))) (w:∃l,x=.j l):
  qi J R 8 241 [.l (an 1),.l (.j [ae 12,x,r])] (ac (cM (l.map fun q=>fL q.1 q.2).flatten)) 51:=fun{G} q=>by
 refine w.elim fun y A=> ?_;subst A;refine xn (N:=(7≤·)) (g:=241) (i:=0) (k:=56) [1] (L:=[(34,.l (an 1)),(20,.l (.j [ae 12,.j y,r])),(53,.l (.j (bf E)))]) (W:=fun q=>ag q.1) (J:=bF::J) I f (dd o (ao z (show 50≤100000 by decide))) (fun B t M ζ O b p m F η q=>
  tF (J:=bF::J) b p m F fun T d P h=>q T d P fun n a=>by
   exact cZ 0 [.call (h n (bl a rfl))]) fun θ B b X Z S C=> ?_
 refine eB S.d fun ι Q U V=> ?_;have u:=V.trans (eg ..);refine sI (J:=bF::J) b (av (by rw[Q])) U (fun e=>j (DO.mp (by rw[←u,e];rfl))) (ao Z (aD (dd o z) rfl)) fun t d O α β γ δ v=> ?_;refine q (ac t) d (zo.of _ _ fun n a=> ?_) β (X.trans γ) (ao δ (b3 (ao Z (cj z _)))) ⟨O,by rw[D6,u] at v;exact v⟩;have ε:(bf E).length≤b4:=ao (a9 ec) (aD z rfl);cases f with
 |nil=>exact aR rfl j
 |cons _ _ _=>
  exact aw 257 [.call (c n (bl a rfl)),.cut s,.le ε,.sub (C n a),.call (α n (bl a rfl))]
theorem HG (I:aW R) {a:aK} (o:a.Ok) {E:List (Nat×Nat)} (b:b5 R E a.els) (z:E.length≤50) {r:aj} (f:R.length≤900000):
  qi J R 8 241 [.l (an 1),.l (.j [ae 12,.j (bf E),r])] (if a.rs=[] then ah else ac (cM (a.rs++a.ts).flatten)) 51:=fun{G} q=>by
 have c:=CS (r:=r) (Y:=aF R::bF::J) (aD z rfl) b.lt3;have d:=Lu▸b.drop _;have c:=CT o b.marks▸c;have s:f7 (ac (a.fr:Int)) ah (.j (bf E))=ac (.j (bf (E.drop a.fr))):=by
  show ac (aj.j (dF (bf E) (ac (a.fr:Int)) ah))=_;rw[aj.c.inj (bD (qC))];unfold bf;rw[yh]
 by_cases h:a.rs=[]
 ·rw[h,qT o h] at d;rw[aJ h] at q;rw[(fs.mp d.len)] at s;refine q ah R (zo.of _ _ fun n g=> ?_) I .f (bu _ _) trivial;have c:=c n (bl g rfl);exact aw 1 [.call c,.cut s]
 ·rw[aL h] at q;refine E8 (Y:=[]) I d (fun e=>h (DO.mp (pk.mp e).1)) (by refine ak rh ?_;exact ao (it _ _) z) f c s ⟨_,rfl⟩ ?_;rw[cd,eg,eg,show(fun q:List Nat×Nat=>fL q.1 q.2)∘(·,2)=id from rfl,show(fun q:List Nat×Nat=>fL q.1 q.2)∘(·,0)=id from rfl,uk,uk];exact q
theorem Hh (I:aW R) {a:aK} (s:a.Ok) {E:List (Nat×Nat)} (g:b5 R E a.els) (z:E.length≤50) {r:aj} {p:Nat} (w:R.length≤900000):
  qi J R 9 246 [.l (an 1),.l (.j [ae 12,.j (bf E),r]),.l (ag p)] (a.rd p) 51:=fun{G} q=>by
 have C:=CS (r:=r) (Y:=aF R::bF::J) (aD z rfl) g.lt3;have C:=CT s g.marks▸C;by_cases f:p<a.fr
 ·refine bK (J5 s f) fun k M e x=> ?_;have t:p<E.length:=by rw[g.len];exact(hy.mp e).1
  have u:=cS t;refine bK (g.at u) fun Q i l P=> ?_;rw[x] at q;rw[e] at l;obtain⟨rfl,m⟩:=Sn (bD l);refine tF (J:=bF::J) I P (g.lt3 _ (eR u)) (aD w rfl) fun T v i y A B F L=>q (ac T) v (zo.of _ _ fun n j=> ?_) A B (ao F (cj (by decide) _)) ⟨i,m▸L⟩;have C:=C n (bl j rfl);exact aw 256 [.call C,.A (cu f),.get (nt (hN u)),.call (y n (bl j rfl))]
 ·have N:a.rd p=if a.rs=[] then ah else ac (cM (a.rs++a.ts).flatten):=by
   unfold aK.rd;rw[aL (fun h=>f (ft h (bu _ _))),aL f]
  rw[N] at q;refine HG (J:=J) I s g z (r:=r) w fun o v h a b c d=>q o v (zo.of _ _ fun n j=> ?_) a b c d;exact aw 0 [.call (C n (bl j rfl)),.A (cP f),.call (h n j)]
theorem H3 (I:aW R) {a:aK} {i:Nat} (u:cg R i a) (z:a.els.length≤50) {p:Nat} (m:p<3) (w:R.length≤900000):
  qi J R 11 243 [.l (an 1),.l (ag i),.l (dG p)] (a.rd p) 51:=fun{G} q=>by
 rcases u.m with⟨e,k,O,l,P,x⟩|⟨E,l,v,f⟩
 ·have y:a.rd p=some k:=by
   rw[x];show some (cM (k++[]))=_;rw[List.append_nil,q6 P.nk]
  have q:=y▸q;refine q (some e) R (zo.of _ _ fun n g=> ?_) I .f (Nat.le_add_right _ _) ⟨O,P⟩;have C:aE 3 242 [.l (.inst 1),.l (.j [.int 11,ag e,ag a.c]),.l (dG p)] (aF R::bF::J) (ag e) [] (aF R::bF::J):=zo.of _ _ fun n g=>by
   have h:=K3 (Y:=aF R::bF::J) m n g;exact aw 2 [.call h]
  have C:=C n (bl g rfl);exact aw 32 [.row l,.call C,.A (i:=e) (j:=0) rfl,.call (kJ (t:=e) (Y:=aF R::bF::J) n (bl g rfl))]
 ·refine Hh (J:=J) I u.1 v (v.len▸z) (r:=ag a.c) w fun o s h A b c d=>q o s (zo.of _ _ fun n g=> ?_) A b c d;have C:aE 10 242 [.l (an 1),.l (.j [ae 12,.j (bf E),ag a.c]),.l (dG p)] (aF R::bF::J) (Bc o) [] (aF s::bF::J):=zo.of _ _ fun n g=>by
   exact aw 18 [.call (te (Y:=aF R::bF::J) m n (bl g rfl)),.call (Ob (Y:=aF R::bF::J) m n (bl g rfl)),.call (h n g)]
  have C:=C n g;induction o with
  |none=>exact aw 64 [.row l,.call C]
  |some t=>
   exact aw 64 [.row l,.call C,.A (i:=t) (j:=0) rfl,.call (kJ (t:=t) (Y:=aF s::bF::J) n (bl g rfl))]
end
theorem v2 (p:List Nat) (h:iD (dw bw (aZ n) k) (kx g p i k d L Y) vs l st'):cc bw (aZ n) (eu g p i k [d] L Y) (.h (.c (vs++[]))) l st':=p8 (h.wp rfl)
theorem Nd (p:List Nat) {M:au} (f:kw g p=af) (h:ff n g p (hn L) d L Y a' M st'):cc bw (aZ n) (dS g p ah [d] L Y) a' M st':=by
 unfold kw at f;unfold ff p0 at h;unfold dS;generalize mH g p=q at f h;obtain⟨c,t,b⟩:=q;cases c with
 |some _=>exact hU f
 |none=>exact r9 h (av rfl) rfl rfl
section
theorem Nb {i:Nat} (a:¬(i:Int)=0) (b:¬(i:Int)=13) (h:aE k 243 [.l (an 1),.l (ag i),.l (dG p)] Y d [] st'):
  aE (k+1) 244 [.l (an 1),.l (ag i),.l a4,.l (dG p)] Y d [] st':=zo.of _ _ fun n c=>by
 exact aw 256 [.C a,.C b,.call (h n c)]
theorem IA (h:R[i]? =ac (.j (ae a::x))) (f:a=11∨a=12):
  aE 2 239 [.l (an 1),.l (ag i),.l (dG p)] (aF R::bF::J) a4 [] (aF R::bF::J):=zo.of _ _ fun n b=>by
 have c:=kJ (t:=i) (Y:=aF R::bF::J) n b;have e:=NF (t:=i) (d:=dG p) (Y:=aF R::bF::J) n b;rcases f with rfl|rfl
 ·exact aw 4096 [.call c,.row h,.get (eK (a:=.int 11) (x:=x)),.call e]
 ·exact aw 69632 [.call c,.row h,.get (eK (a:=.int 12) (x:=x)),.get (eK (a:=.int 12) (x:=x)),.call e]
theorem FZ:aE 1 227 [.l (.c [a4])] Y (aA ai) [] Y:=zo.of _ _ fun n h=>by
 exact aw 0 [.sub (Nd (n:=n) (g:=227) [1] (d:=a4) (L:=[(18,.l (.c [a4])),(43,bE (.e []))]) (M:=[(18,.l (.c [a4])),(43,bE (.e [(ae 0,ae 1)]))]) (Y:=Y) (st':=Y) rfl ⟨0,[],by kernel_rfl⟩)]
theorem Ov {i:Nat} (h:¬(i:Int)=0) (a:¬(i:Int)=13):cX (ag i) (.j [ae 0,ae 13])=ac false:=by
 show ac (((0:Int)==(i:Int))||(((13:Int)==(i:Int))||ai))=ac ai;rw[c5.mpr (fun e=>h e.symm),c5.mpr (fun e=>a e.symm)];rfl
theorem Qw {i:Nat} (c:3≤k) (e:R[i]? =ac (.j (ae a::x))) (j:a=11∨a=12) (f:gj i) (h:aE k 244 [.l (an 1),.l (ag i),.l a4,.l (dG p)] (aF R::bF::J) d [] st'):∀n,k≤n→
  cc bw (aZ n) (eu 245 [0] 0 59 [ag i] [(34,.l (an 1)),(19,.l (ag i)),(50,.l (dG p))] (aF R::bF::J)) (.h (.c [ag i])) [(34,.l (an 1)),(19,.l (ag i)),(50,.l (dG p))] (aF R::bF::J)∧
  cc bw (aZ n) (eu 245 [1] 0 59 [ag i] [(34,.l (an 1)),(19,.l (ag i)),(50,.l (dG p)),(23,.l (.c [ag i]))] (aF R::bF::J)) (.h (.c [a4])) [(34,.l (an 1)),(19,.l (ag i)),(50,.l (dG p)),(23,.l (.c [ag i]))] (aF R::bF::J)∧
  cc bw (aZ n) (eu 245 [2] 0 59 [ag 0] [(34,.l (an 1)),(19,.l (ag i)),(50,.l (dG p)),(23,.l (.c [ag i])),(18,bE (.c [a4]))] (aF R::bF::J)) (.h (.c [d])) [(34,.l (an 1)),(19,.l (ag i)),(50,.l (dG p)),(23,.l (.c [ag i])),(18,bE (.c [a4]))] st':=fun n b=>⟨v2 (g:=245) (i:=0) (k:=59) (d:=ag i) [0] (vs:=[ag i]) (by exact cZ 0 [.call (H4 (t:=i) (Y:=aF R::bF::J) n (bl (ao c b) rfl)),.call (kJ (t:=i) (Y:=aF R::bF::J) n (bl (ao c b) rfl))]),v2 (g:=245) (i:=0) (k:=59) (d:=ag i) [1] (vs:=[a4]) (by exact cZ 0 [.has (Ov f.n0 f.a),.call (IA (J:=J) (p:=p) e j n (bl (ao c b) rfl))]),v2 (g:=245) (i:=0) (k:=59) (d:=ag 0) [2] (vs:=[d]) (by exact cZ 2 [.call (h n b)])⟩
theorem F8 (I:aW R) {a:aK} (b:cg R i a) (E:a.els.length≤50) (B:p<3) (l:R.length≤890000):
  qi J R 13 245 [.l (an 1),.l (ag i),.l (dG p)] (a.rd p) 52:=fun{G} q=>by
 refine b.hd.elim fun W z=>z.elim fun X Z=>Z.elim fun m F=>F.elim fun s _=>(b.far I).elim fun f z=>z.elim fun _ _=> ?_;have c:=N3 (J:=J) m s;refine H3 (J:=J) I b E B (aD l rfl) fun o r C u x Z d=> ?_;have v:=Qw (by decide) m s f (Nb f.n0 f.a C);cases o with
 |none=>
  refine q ah r (zo.of _ _ fun n h=> ?_) u x (rf Z) d;have c:=c n (bl h rfl);refine(v n h).elim fun A z=>z.elim fun g j=> ?_;exact aw 12560 [.call c,.sub A,.sub g,.sub j]
 |some t=>
  cases w:a.rd p with
  |none=>rw[w] at d;exact d.elim
  |some k=>
   rw[w] at d q;refine d.elim fun O y=>sI (J:=bF::J) (qs:=[(t,k,O)]) u (av rfl) (fun q L=>bW.mp L▸y) (fun e=>(by cases e)) (ao Z (aD (dc l 51) rfl)) fun T M N P Q S U D=> ?_;rw[show([(t,k,O)]:List (Nat×List Nat×List Nat)).flatMap (·.2.1)=k from c8 k,q6 y.nk] at D;refine q (ac T) M (zo.of _ _ fun n h=>((v n h).elim fun A z=>z.elim fun g j=> ?_)) Q (x.trans S) (ao U (b3 Z)) ⟨N,D⟩;have V:cX (ae (-1)) (.c [ag t])=ac false:=rfl;exact aw 17838352 [.call (c n (bl h rfl)),.sub A,.sub g,.sub j,.has V,.call ((FZ (Y:=aF r::bF::J)) n (bl h rfl)),.call (P n (bl h rfl))]
end
noncomputable def gY (u:Nat):Bool:=u !=6&&u !=7
theorem GT:∀u,u<9→u≠8→u≠5→gY u=aM (u<5):=fun u h=>p_ (P:=fun u=>u≠8→u≠5→gY u=aM (u<5)) (by decide) u h
section
theorem G7 (I:aW R) (h:cq R i u):aE 2 174 [.l (an 0),.l (ag i)] (aF R::J) (aA (gY u)) [] (aF R::J):=zo.of _ _ fun n g=>by
 refine cE h.head fun a x d j w=> ?_;have f:=zx (J:=J) d (.a w) n g;rw[←bD (h.1.symm.trans d),IV u h.2] at f;have N:(i==4)=aM (u=8):=by
  induction e:(i==4) with
  |true=>exact(cu (by cases dL.mp e;exact h.code I.un.1)).symm
  |false=>exact(cP fun E=>by subst E;exact c5.mp e (h.inj I I.un.1)).symm
 have b:(i==5)=aM (u=5):=by
  induction e:(i==5) with
  |true=>exact(cu (by cases dL.mp e;exact h.code I.un.2.1)).symm
  |false=>exact(cP fun E=>by subst E;exact c5.mp e (h.inj I I.un.2.1)).symm
 have k:=h.2;clear h d w j I;by_cases c:u=8
 ·subst c;rw[cu rfl] at N;exact aw 0 [.x N]
 ·rw[cP c] at N;by_cases C:u=5
  ·subst C;rw[cu rfl] at b;exact aw 16 [.x N,.x b]
  ·rw[cP C] at b;refine ak (GT u k c C) ?_;exact aw 272 [.x N,.x b,.call f]
theorem gi.len (h:gi k):k.length≤9:=by
 have n:k.Nodup:=h.2.1.imp fun h=>hZ h;exact ao (n.length_le_of_subset (l₂:=cv 9) fun x a=>hB.mpr (h.2.2.1 x a)) (a9 gm)
theorem Qf:∀l:List Bool,nw (l.map aA)=ac (l.all id):=by
 intro l;induction l with
 |nil=>rfl
 |cons b l i=>
  refine((ak (i) ?_):(nw (l.map aA)).map _=_);rfl
theorem bH.idn (I:aW R) (h:bH R t k O):O.length≤9∧0<O.length:=⟨ao (h.ids_le I) h.nk.len,((nS _ h.nk.1).elim fun u a=>(ay (h.fr u a) fun i b _=>DC b))⟩
theorem Kn (I:aW R) (h:bH R t k O):aE 3 224 [.l (an 0),.l (ag t)] (aF R::J) (aA (k.all gY)) [] (aF R::J):=zo.of _ _ fun n j=>by
 refine(h.idn I).elim fun m p=> ?_;have e:k.all gY=(O.map fun i=>gY (he R i)).all id:=by
  rw[ji,pD,cH,cH];constructor
  ·refine fun d i b=>ay (h.to i b) fun u a f=> ?_;show gY (he R i)=af;rw[hS f];exact d u a
  ·refine fun d u a=>ay (h.fr u a) fun i b f=> ?_;have:=d i b;rw[←hS f];exact this
 have T:=Qf (O.map fun i=>gY (he R i));have c:=fI (g:=224) [1] 0 56 ag O (fun i=>[aA (gY (he R i))]) [(1,.l (an 0)),(19,.l (ag t)),(23,.l (.j (O.map ag)))] (aF R::J) fun i b=>by
  refine ay (h.to i b) fun u _ a=>ak (hS a) ?_;exact cZ 0 [.call (G7 (J:=J) I a n j)]
 rw[←kd] at c;rw[eg] at T;refine ak e ?_;have l:(O.map ag).length≤b4:=by rw[aB];exact aD m rfl
 exact aw 4096 [.call (jo (J:=J) h.pt n (bl j rfl)),.G (ds:=O.map ag) (aB _) (aD m rfl),.y (cu p),.le l,.sub c,.z (o:=.all _) T]
theorem NO (I:aW R) (h:bH R t k O):aE 4 248 [.l (an 1),.l (ag t)] (aF R::bF::J) (aA (k.all gY)) [] (aF R::bF::J):=zo.of _ _ fun n b=>by
 refine bK h.head fun a x d f=> ?_;have c:¬a=18:=fun e=>by subst e;exact aR f (by decide)
 exact aw 0 [.row d,.get (eK (a:=ae a) (x:=x)),.C c,.call (Kn (J:=bF::J) I h n b)]
end
def mR (ls:List aK) (p:Nat):Prop:=(∃a∈ls,∃b∈ls,∃k c,a.rd p=ac k∧b.rd p=ac c∧k≠c)∧∃a∈ls,∃k,a.rd p=ac k∧k.all gY=af
section
structure p7 (A:Nat→aK) (p:Nat) (R:List aj) (d G:List Nat):Prop where
 nd:G.Nodup
 of:∀x∈G,∃k O,bH R x k O∧∃j∈d,(A j).rd p=ac k
 to:∀j∈d,∀k,(A j).rd p=ac k→∃x∈G,∃O,bH R x k O
theorem p7.none (g:p7 A p R d G) (x:bL R r) (h:(A j).rd p=ah):p7 A p r (d++[j]) G:=
 ⟨g.nd,fun y b=>(g.of y b).elim fun k z=>z.elim fun O Z=>Z.elim fun f l=>l.elim fun i m=>m.elim fun a n=>⟨k,O,f.mono x,i,cG _ a,n⟩,fun i a k c=>(dD.mp a).elim (fun a=>(g.to i a k c).elim fun y z=>z.elim fun b Z=>Z.elim fun O h=>⟨y,b,O,h.mono x⟩) fun e=>by
  rw[bW.mp e,h] at c;injection c⟩
theorem p7.some (g:p7 A p r d G) (x:bL r R) (h:(A j).rd p=ac k) (P:bH R t k O):p7 A p R (d++[j]) (gz t G):=
 ⟨w_ g.nd,fun y a=>(pU.mp a).elim (fun e=>⟨k,O,e▸P,j,eD _ (cU _),h⟩) fun a=>(g.of y a).elim fun k z=>z.elim fun O Z=>Z.elim fun f l=>l.elim fun i m=>m.elim fun b n=>⟨k,O,f.mono x,i,cG _ b,n⟩,
  fun i b o c=>(dD.mp b).elim (fun b=>(g.to i b o c).elim fun y z=>z.elim fun a Z=>Z.elim fun O h=>⟨y,pU.mpr (aI a),O,h.mono x⟩) fun e=>by
   rw[bW.mp e,h] at c;injection c with c;subst c;exact⟨t,pU.mpr (av rfl),O,P⟩⟩
theorem p7.tells (I:aW t) (g:p7 A p t js G):(1<G.length∧0<(G.filter fun x=>(ie t x).all gY).length)↔mR (js.map A) p:=by
 constructor
 ·intro z;refine z.elim fun v F=> ?_;constructor
  ·have X:=k1 (rt pB v);refine(g.of _ X).elim fun k Z=>Z.elim fun O d=>d.elim fun P f=>f.elim fun j m=>m.elim fun h r=>(g.of _ (k1 v)).elim fun o Z=>Z.elim fun i d=>d.elim fun q f=>f.elim fun B m=>m.elim fun s R=>⟨_,q_ h,_,q_ s,k,o,r,R,fun e=> ?_⟩;have e:=bH.uniq I P (e▸q);exact aR e (List.pairwise_iff_getElem.mp g.nd 0 1 _ _ pB)
  ·refine(List.exists_mem_of_length_pos F).elim fun x n=>(c_.mp n).elim fun L C=>(g.of x L).elim fun k Z=>Z.elim fun O d=>d.elim fun P f=>f.elim fun j m=>m.elim fun h r=> ?_;rw[hw I P] at C;exact⟨_,q_ h,k,r,C⟩
 ·intro z;refine z.elim fun z M=>z.elim fun a z=>z.elim fun N z=>z.elim fun b z=>z.elim fun Q z=>z.elim fun k z=>z.elim fun o z=>dM z fun r R S=>M.elim fun c z=>z.elim fun T z=>ay z fun U V u=> ?_;refine ay (cr.mp N) fun j h E=> ?_;refine ay (cr.mp Q) fun B s W=>ay (cr.mp T) fun α β γ=>(g.to j h k (E▸r)).elim fun x Z=>Z.elim fun n d=>d.elim fun O P=>(g.to B s o (W▸R)).elim fun y Z=>Z.elim fun D d=>d.elim fun i q=>(g.to α β U (γ▸V)).elim fun z Z=>Z.elim fun δ d=>d.elim fun ζ ε=> ?_;refine⟨f' fun l=>S ?_,DC (c_.mpr ⟨δ,by rw[hw I ε];exact u⟩)⟩;refine(List.length_eq_one_iff.mp (e8 l (DC n))).elim fun w e=> ?_;rw[e] at n D;exact(mE I P ((bW.mp n).trans (bW.mp D).symm▸q)).1
theorem N_ (I:aW R) {js:List Nat} (β:∀j∈js,cg R j (A j)∧(A j).els.length≤50) (γ:p<3) (B:js.length≤1000) (δ:R.length+52*js.length≤890000)
  {G:Prop} (q:∀u b,aE 14 249 [.l (an 1),.l (.c (js.map ag)),.l (dG p)] (aF R::bF::J) (aA b) [] (aF u::bF::J)→aW u→bL R u→u.length≤R.length+52*js.length→(b=af↔mR (js.map A) p)→G):G:=by
 refine kV (N:=(13≤·)) (g:=249) (b:=ah) [1] ag js (fun x:List Nat×List aj=>[(34,.l (an 1)),(23,.l (.c (js.map ag))),(50,.l (dG p)),(56,bE (.e (b7 x.1)))]) (fun x=>aF x.2::bF::J)
  (fun d x=>aW x.2∧bL R x.2∧x.2.length≤R.length+52*d.length∧x.1.length≤d.length∧p7 A p x.2 d x.1) ([],R) ⟨I,.f,bv _,bv _,h7,(fun _ h=>nomatch h),fun _ h=>nomatch h⟩ rfl
  (fun D j ι x e y κ q=> ?_) fun x y w=> ?_
 ·refine i6 y fun m X Z z g=>(β j (eO e)).elim fun a ε=> ?_;have E:D.length+1≤js.length:=by rw[e,bi];exact cj (b3 (cA _)) _
  have M:∀{r:List aj},r.length≤x.2.length+52→r.length≤R.length+52*(D++[j]).length:=fun h=>by
   rw[bi];exact ao h (dc Z 52)
  refine F8 (J:=J) m (a.mono X) ε γ (ao Z (ao (cj (fh 52 (kg E)) _) δ)) fun o r C Q v S d=> ?_;induction s:(A j).rd p with
  |none=>
   induction o with
   |some t=>rw[s] at d;exact d.elim
   |none=>
    refine q (x.1,r) (kS Q (X.trans v) (M S) (ao z (by rw[bi];exact fQ _)) (g.none v s)) rfl fun n f=> ?_;have C:=C n f;exact bq 0 [.call C]
  |some k=>
   induction o with
   |none=>rw[s] at d;exact d.elim
   |some t=>
    rw[s] at d;refine d.elim fun O P=>q (gz t x.1,r) (kS Q (X.trans v) (M S) (?_) (g.some v s P)) rfl fun n f=> ?_
    ·rw[bi];refine ao ?_ (b3 z);unfold gz;split
     ·exact fQ _
     ·exact ak bi (bv _)
    ·have C:=C n f;exact bq 0 [.call C,.J (i:=t) (j:=0) rfl,.set (qc (i:=t) (ao z (ao (kg E) (aD B rfl))))]
 ·refine i6 y fun m X Z z g=> ?_;have z:=ao z B;have l (n:Nat) (f:13≤n):=fI (g:=249) [2] 0 59 ag x.1 (fun t=>if(ie x.2 t).all gY then[ag t] else[]) [(34,.l (an 1)),(23,.l (.c (js.map ag))),(50,.l (dG p)),(56,.l (.e (b7 x.1)))] (aF x.2::bF::J) fun t ζ=>by
   refine bK (g.of t ζ) fun k O h _=> ?_;have U:=NO (J:=J) m h n (bl f rfl);refine ak (hw m h) ?_;cases η:k.all gY<;>rw[η] at U<;>exact cZ 0 [.call (kJ (t:=t) (Y:=aF x.2::bF::J) n (bl f rfl)),.call U]
  have V:(b7 x.1).map (·.1)=x.1.map ag:=eg ..;simp only[ng,←V] at l;have L:=hY (fun t=>(ie x.2 t).all gY) x.1;have T:=g.tells m;generalize μ:x.1.filter (fun t=>(ie x.2 t).all gY)=F at l L T;have W:(pT (.e (b7 x.1))).e=ac (ag x.1.length):=by
   show(if(b7 x.1).length≤_ then ac (ae ((b7 x.1).length:Nat)) else ah)=_
   rw[BN,aJ (aD z rfl)]
  have α:((b7 x.1).map (·.1)).length≤b4:=by rw[V,aB];exact aD z rfl
  have θ:F.length≤16777216:=ao L (aD z rfl);refine q x.2 (aM (1<x.1.length)&&aM (0<F.length)) (zo.of _ _ fun n f=> ?_) m X Z (by rw[fu,n6,n6];exact T);have w:=w n f;have l:=l n f;cases c:aM (1<x.1.length)
  ·exact aw 0 [.sub w,.le α,.sub l,.F W,.y c]
  ·cases d:aM (0<F.length)<;>exact aw 1048576 [.sub w,.le α,.sub l,.F W,.y c,.p (ds:=F.map ag) (aB _) θ,.y d]
theorem PM {m:bh} (h:aE k 249 [.l (an 1),.l x,.l (dG p)] (m.st R) (aA b) [] (m.st r)):aE (k+2) 253 [.l (an 2),.l x,.l (dG p)] (m.st R) (aA b) [] (m.st r):=by
 have c:aE (k+1) 7080 [.l (an 6),.l (an 2),.l x,.l (dG p)] (m.st R) (aA b) [] (m.st r):=zo.of _ _ fun n a=>by
  exact aw 0 [.call (h n a)]
 exact zo.of _ _ fun n a=>by exact aw 3 [.call (c n a)]
end
theorem bH.len_eq (I:aW R) (h:bH R t k O):O.length=k.length:=by
 refine e8 (h.ids_le I) ?_;have n:k.Nodup:=h.nk.2.1.imp fun h=>hZ h;have:=n.length_le_of_subset (l₂:=O.map (he R)) fun x a=>by
  exact ay (h.cod_mem.mp a) fun j b e=>cr.mpr ⟨j,b,e⟩
 simpa using this
noncomputable def j6 (a:aK) (ls:List aK) (p:Nat):Bool:=by classical exact aM (1<((a.hs[p]?).getD []).length∧mR ls p)
theorem nv:j6 a ls p=af↔1<((a.hs[p]?).getD []).length∧mR ls p:=by unfold j6;simp
noncomputable def gf (a:aK) (ls:List aK):List Nat:=(cv a.hs.length).filter (j6 a ls)
noncomputable def kE (q:Nat×List Nat):aj:=.j [ag q.1,.j (q.2.map ag)]
theorem Gu {a:aK} (o:a.Ok) (h:a.els[i]? =ac q):q.2=0∧i<a.hs.length∧a.hs[i]? =ac q.1∨(a.hs.length≤i∧(i=a.hs.length→q.2≠0)):=by
 by_cases c:i<a.hs.length
 ·have:=(oU o).1 i c;rw[h,cS c] at this;simp only[lN,nW] at this;subst this;exact av ⟨rfl,c,cS c⟩
 ·refine aI ⟨cD (.c 1 .b .f (.g 1 .b .f)) rfl (dC c),fun e=> ?_⟩;have l:i<a.els.length:=by
   rcases EA i a.els.length with b|b
   ·exact b
   ·rw[List.getElem?_eq_none b] at h;injection h
  refine iN (oU o) fun _ f g _=> ?_;by_cases d:a.os=[]
  ·by_cases r:a.rs=[]
   ·have t:=gl fun q=>o.ts q r;rw[np,d,r,t] at l;simp at l;lia
   ·have:=g r;rw[show a.fr=i by unfold aK.fr;rw[d,e];rfl,h] at this;injection this with this;subst this;simp
  ·have:=f 0 (jf.mpr d);rw[EC,←e,h] at this;injection this with this;subst this;simp
noncomputable def bh.tl (m:bh):ar:=m.rest.tail
structure hg (R:List aj) (a:aK) (ls:List aK) (d:Nat) (s:List (Nat×List Nat)):Prop where
 b:s.map (·.1)=(cv d).filter (j6 a ls)
 ids:∀q∈s,∃t k,a.hs[q.1]? =ac k∧bH R t k q.2
theorem hg.mono (x:bL R r) (h:hg R a ls d s):hg r a ls d s:=⟨h.b,fun q c=>(h.ids q c).elim fun t z=>z.elim fun k Z=>Z.elim fun e f=>⟨t,k,e,f.mono x⟩⟩
theorem hg.yes (h:hg R a ls d s) (e:j6 a ls d=af) {O:List Nat} (f:a.hs[d]? =ac k) (p:bH R t k O):hg R a ls (d+1) (s++[(d,O)]):=by
 refine⟨by rw[cd,h.b,ya,pv];simp[e],fun q c=> ?_⟩;rcases dD.mp c with c|c
 ·exact h.ids q c
 ·rw[List.mem_singleton.mp c];exact⟨t,k,f,p⟩
theorem hg.no (h:hg R a ls d s) (c:j6 a ls d=ai):hg R a ls (d+1) s:=
 ⟨by rw[h.b,ya,pv];simp[c],h.ids⟩
theorem tQ {E:List c} (e:E.zipIdx=d++j::r1):j.2=d.length∧E[j.2]? =ac j.1∧d.length<E.length:=by
 have h:E.zipIdx[d.length]? =ac j:=by rw[e,jE (bv _),pE];rfl
 rw[Rx] at h;refine(dg.mp h).elim fun x z=>z.elim fun a b=> ?_;refine ak (cB b) ?_;refine⟨jI _, ?_,(hy.mp a).1⟩;rw[jI];exact a
noncomputable def sJ (E:List (Nat×Nat)) (ro:Nat) (js:List Nat) (s:List (Nat×List Nat)):au:=[(27,.l (an 2)),(20,.l (.j [ae 12,.j (bf E),ag ro])),(23,.l (.c (js.map ag))),(34,.l (an 1)),(13,bE (.c (s.map kE)))]
structure HN (R:List aj) (a:aK) (ls:List aK) (z d:Nat) (x:List (Nat×List Nat)×List aj):Prop where
 I:aW x.2
 ex:bL R x.2
 z:x.2.length≤R.length+d*z
 l:d≤a.hs.length
 so:hg x.2 a ls d x.1
theorem MR (h:i<3):(rG (ag i)).e=ac (dG i):=l7 (P:=fun i=>(rG (ag i)).e=ac (dG i)) rfl rfl rfl h
section
variable{m:bh}
abbrev wi (n ro:Nat) (E:List (Nat×Nat)) (js:List Nat) (i:Nat) (s:List (Nat×List Nat)) (Y:ar) (f:cR) (S:List (Nat×List Nat)) (st':ar):Prop:=ff n 255 [2] (hn (sJ E ro js [])) (ag i) (sJ E ro js s) Y f (sJ E ro js S) st'
theorem N8 (h:1≤n) (q:E[i]? =ac (w,mk)) (a:mk≠0):wi n ro E js i s (m.st R) .o s (m.st R):=by
 exact bq 1 [.get (nt (hN q)),.call (kJ (t:=w) (Y:=m.st R) n h),.M (c5.mpr a)]
theorem GR (a:1≤n) (q:E[i]? =ac (w,0)) (p:gR R w O) (l:O.length≤1000) (h:¬1<O.length):wi n ro E js i s (m.st R) a' s (m.st R):=by
 have c:aZ n 165 [.l (an 0),.l (ag w)] (m.st R) (.j (O.map ag)) [] (m.st R):=jo p n a;exact bq 257 [.get (nt (hN q)),.call (kJ (t:=w) (Y:=m.st R) n a),.call c,.G (ds:=O.map ag) (aB _) (aD l rfl),.y (cP h)]
theorem OI (d:1≤n) (f:i<3) (q:E[i]? =ac (w,0)) (p:gR R w O) (P:gR r w O) (l:O.length≤1000) (h:1<O.length) (j:s.length≤1000)
  (c:aZ n 253 [.l (an 2),.l (.c (js.map ag)),.l (dG i)] (m.st R) (aA b) [] (m.st r)):wi n ro E js i s (m.st R) a' (if b then s++[(i,O)] else s) (m.st r):=by
 have C:=kJ (t:=w) (Y:=m.st R) n d;have g:=nt (hN q);have e:aZ n 165 [.l (an 0),.l (ag w)] (m.st R) (.j (O.map ag)) [] (m.st R):=jo p n d;have k:aZ n 165 [.l (an 0),.l (ag w)] (m.st r) (.j (O.map ag)) [] (m.st r):=jo P n d;have S:=MR f;induction b with
 |false=>exact bq 257 [.get g,.call C,.call e,.G (ds:=O.map ag) (aB _) (aD l rfl),.y (cu h),.F S,.call c]
 |true=>
  have a:fJ 3 (.c (s.map kE)) [.j [ag i,.j (O.map ag)]]=ac (a4,.c ((s++[(i,O)]).map kE)):=by
   refine ak cd ?_;exact aJ (by rw[aB];exact aD j rfl)
  exact bq 268435713 [.get g,.call C,.call e,.G (ds:=O.map ag) (aB _) (aD l rfl),.y (cu h),.F S,.call c,.call k,.u a]
end
theorem G5 {m:bh} {R:List aj} (I:aW R) (o:a.Ok) (γ:b5 R E a.els) (ξ:E.length≤50) (B:a.hs.length≤3) {js:List Nat} (δ:∀j∈js,cg R j (A j)∧(A j).els.length≤50) (ο:js.length≤1000) (π:R.length+3*(52*js.length)≤890000)
  {G:Prop} (q:∀r s,aE 18 255 [.l (an 2),.l (.j [ae 12,.j (bf E),ag a.c]),.l (.c (js.map ag))] (m.st R) (.c (s.map kE)) [] (m.st r)→aW r→bL R r→r.length≤R.length+3*(52*js.length)→hg r a (js.map A) a.hs.length s→G):G:=by
 have ε:E.length≤100000:=aD ξ rfl;have ρ:a.hs.length≤E.length:=by rw[mD γ.marks,ev,ev];exact bu _ _
 have f {d:Nat} {x:List (Nat×List Nat)×List aj} (h:HN R a (js.map A) (52*js.length) d x) (e:d=a.hs.length):aW x.2∧bL R x.2∧x.2.length≤R.length+3*(52*js.length)∧hg x.2 a (js.map A) a.hs.length x.1:=
  ⟨h.I,h.ex,ao h.z (cj (pq _ (e▸B)) _),e▸h.so⟩
 refine p5 (N:=(17≤·)) (g:=255) (b:=ah) [2] (fun p=>ag p.2) E.zipIdx (fun x:List (Nat×List Nat)×List aj=>sJ E a.c js x.1) (fun x=>m.st x.2) (fun d=>HN R a (js.map A) (52*js.length) d.length)
  (fun F x=>F=a'∧aW x.2∧bL R x.2∧x.2.length≤R.length+3*(52*js.length)∧hg x.2 a (js.map A) a.hs.length x.1) ([],R) ⟨I,.f,bu _ _,cA _,rfl,fun _ h=>nomatch h⟩ rfl
  (fun D j a₄ x e t a₅ Q σ=> ?_) (fun x h=>⟨rfl,f h (e8 h.l (by rw[pu];exact ρ))⟩) fun F x h w=> ?_
 ·refine dM (tQ e) fun y T a₆=>(γ.at T).elim fun k z=>z.elim fun O Z=>Z.elim fun L τ=> ?_;have u {n:Nat} (v:17≤n):1≤n:=bl v rfl;rcases Gu o L with⟨U,ζ,V⟩|⟨υ,φ⟩
  ·have U:=U;have η:E[j.2]? =some (j.1.1,0):=U▸T;have θ:=Nat.lt_of_lt_of_le ζ B;have P:=τ.mono t.ex;have ι:=P.len_eq t.I;have κ:O.length≤1000:=aD (P.idn t.I).1 rfl;have W:=y▸ζ;have l:(D++[j]).length=D.length+1:=by rw[List.length_append];rfl
   have α:x.2.length+52*js.length≤R.length+(D.length+1)*(52*js.length):=Nat.le_trans (Nat.add_le_add_right t.z _) (Nat.le_of_eq (by rw[Nat.add_assoc,Nat.add_mul D.length 1,Nat.one_mul]));by_cases C:1<k.length
   ·refine N_ (J:=m.tl) t.I (fun i μ=>⟨(δ i μ).1.mono t.ex,(δ i μ).2⟩) θ ο (Nat.le_trans α (Nat.le_trans (Nat.add_le_add_left (Nat.mul_le_mul_right _ (Nat.le_trans W B)) _) π)) fun χ b c ψ X β ω=> ?_;have S:j6 a (js.map A) D.length=b:=by
     rw[ji,nv,ω,←y,V];exact⟨fun h=>h.2,fun h=>⟨C,h⟩⟩
    refine Q (if b then x.1++[(j.2,O)] else x.1,χ) ?_ rfl fun n v=>OI (u v) θ η P.pt (P.mono X).pt κ (ι▸C) ?_ ((PM c) n (bl v rfl))
    ·refine ak l (⟨ψ,t.ex.trans X,ao β α,W,(ak y ?_)⟩);induction b with
     |true=>exact(t.so.mono X).yes S (y▸V) (P.mono X)
     |false=>exact(t.so.mono X).no S
    ·have:=aS gK t.so.b;rw[aB] at this;exact this▸ao (hY _ _) (by refine ak gm ?_;exact ao t.l (aD B rfl))
   ·refine Q x (ak l (⟨t.I,t.ex,ao (bu _ _) α,W,t.so.no (nV.mpr fun h=>C ?_)⟩)) rfl fun n v=>GR (u v) η P.pt κ (ι▸C);rw[nv,←y,V] at h;exact h.1
  ·have ν:=e8 t.l (y▸υ);exact σ .o x ⟨rfl,f t ν⟩ rfl fun n v=>N8 (u v) T (φ (y.trans ν))
 ·refine h.elim fun e z=>z.elim fun a₀ Z=>Z.elim fun a₁ β=>β.elim fun a₂ a₃=> ?_;rw[←la] at w;refine q x.2 x.1 (zo.of _ _ fun n v=> ?_) a₀ a₁ a₂ a₃;have w:=w n v;rw[e] at w;exact aw 1 [.G ec (aD ε rfl),.le ε,.sub w]
noncomputable def ht (c:List (Nat×Nat)):List (aj×aj):=c.map fun p=>(ag p.1,ag p.2)
noncomputable def eL (c:List (Nat×Nat)):aj:=.e (ht c)
noncomputable def fH (p:Nat) (O:List Nat) (acc:List (List (Nat×Nat))):List (List (Nat×Nat)):=acc.flatMap fun c=>O.map fun i=>c++[(p,i)]
noncomputable def dP:List (Nat×List Nat)→List (List (Nat×Nat))→List (List (Nat×Nat))
 |[],a=>a
 |q::r,a=>if 25<(fH q.1 q.2 a).length then[] else dP r (fH q.1 q.2 a)
theorem Ku (c:List (Nat×Nat)):((ht c).all fun p=>jX p.1)=true:=by unfold ht;refine ak pD ?_;exact cH.mpr fun _ _=>rfl
theorem Pp:∀{c:List (Nat×Nat)},p∉c.map (·.1)→gd (ag p) (ag i) (ht c)=ht (c++[(p,i)]):=by
 intro c;induction c with
 |nil=>
  intro _;rfl
 |cons q c I=>
  intro h;simp only[eE,eS,not_or] at h;show(if aj.beq (ag q.1) (ag p)=af then _ else(ag q.1,ag q.2)::gd (ag p) (ag i) (ht c))=_
  rw[mh,aL (by simp;exact fun e=>h.1 e.symm),I h.2];rfl
theorem At:cT (ag i) (ht c)=true:=by
 induction c using cn<;>rfl
theorem H5 (h:p∉c.map (·.1)) (l:c.length≤1000000):gW (.e (ht c)) (ag p) (ag i)=ac (.e (ht (c++[(p,i)]))):=by
 show(if cT _ _∧(ht c).length≤b4 then ac (b0.e (gd _ _ _)) else ah)=_
 rw[aJ ⟨At,by unfold ht;rw[aB];exact l⟩,Pp h]
theorem J6:fH p O (d++[c])=fH p O d++O.map fun i=>c++[(p,i)]:=by
 unfold fH;rw[DQ,DE]
theorem vP:∀{d:List (List (Nat×Nat))},(fH p O d).length=d.length*O.length:=by
 intro d;induction d with
 |nil=>exact(Ev _).symm
 |cons c d i=>
  show(List.flatMap _ (c::d)).length=_;rw[D3,bi,aB,mY,um,rv,f_];exact aS (·+_) i
noncomputable def o2 (A B:aj) (p:Nat) (O:List Nat) (X:List (List (Nat×Nat))):au:=[(58,.l A),(18,.l B),(50,.l (ag p)),(59,.l (.j (O.map ag))),(60,bE (.c (X.map eL)))]
section
theorem K1 (k:p∉c.map (·.1)) (a:c.length≤1000) (j:X.length+O.length≤1000000):
  cc bw (aZ n) (dS 254 [1,1,0] ah (O.map ag) (o2 A B p O X++[(20,.l (eL c))]) Y) a' (o2 A B p O (X++O.map fun i=>c++[(p,i)])++[(20,.l (eL c))]) Y:=by
 obtain⟨x,h,w⟩:=hm (n:=n) (g:=254) (b:=ah) [1,1,0] ag O (fun d (_:Unit)=>o2 A B p O (X++d.map fun i=>c++[(p,i)])++[(20,.l (eL c))]) (fun _ _=>Y) (fun _ _=>True) () trivial rfl fun D i r x e _=>⟨(),a',trivial,av rfl,by
  have l:(X++D.map fun i=>c++[(p,i)]).length≤1000000:=by
   rw[bi,aB];refine ao (cj ?_ _) j;rw[e,bi];exact bu _ _
  have m:fJ 3 (.c ((X++D.map fun i=>c++[(p,i)]).map eL)) [.e (ht (c++[(p,i)]))]=ac (a4,.c ((X++(D++[i]).map fun i=>c++[(p,i)]).map eL)):=by
   rw[cd (f:=fun i=>c++[(p,i)]),←ef,cd (l₁:=X++_)];exact aJ (by rw[aB];exact l)
  exact bq 0 [.z (o:=.c (ht c)) (aS ac (Ku c)),.set (H5 (i:=i) k (aD a rfl)),.u m],rfl⟩
 rw[SJ,c8] at w;exact w
theorem Ha (k:∀c∈acc,p∉c.map (·.1)∧c.length≤1000) (l:acc.length≤25) (i:O.length≤1000):
  cc bw (aZ n) (dS 254 [1,1] ah (acc.map eL) (o2 A B p O []) Y) a' (o2 A B p O (fH p O acc)) Y:=by
 obtain⟨x,h,w⟩:=hm (g:=254) (b:=ah) [1,1] eL acc (fun d (_:Unit)=>o2 A B p O (fH p O d)) (fun _ _=>Y) (fun _ _=>True) () trivial rfl fun D c r x e _=>⟨(),a',trivial,av rfl,by
  have a:=k c (eO e);have f:(fH p O D).length+O.length≤1000000:=by
   rw[vP];refine ao (dd (k2 (ao ?_ l) i) i) (show 25*1000+1000≤1000000 by decide);rw[e,bi];exact bu _ _
  have w:=K1 (n:=n) (Y:=Y) (A:=A) (B:=B) a.1 a.2 f;rw[←J6] at w;exact bq 0 [.sub w],rfl⟩
 exact w
structure S4 (s d:List (Nat×List Nat)) (x:List (List (Nat×Nat))×Bool):Prop where
 e:∀r,s=d++r→dP s [[]]=dP r x.1
 l:x.1.length≤25
 k:∀c∈x.1,c.map (·.1)=d.map (·.1)
end
theorem J1 (F:s.length≤1000) (p:∀q∈s,q.2.length≤1000) (d:(s.map (·.1)).Nodup):aE 1 254 [.l (.c (s.map kE))] Y (.c ((dP s [[]]).map eL)) [] Y:=zo.of _ _ fun n k=>by
 refine p5 (N:=(·=n)) (g:=254) (b:=ah) [1] kE s (fun x:List (List (Nat×Nat))×Bool=>[(58,.l (.c (s.map kE))),(18,jQ x.2 (.c (x.1.map eL)))]) (fun _=>Y) (S4 s)
  (fun f x=>f=.h (.c [])∧dP s [[]]=[]∨f=a'∧dP s [[]]=x.1) ([[]],af) ⟨fun r e=>e▸rfl,by decide,fun c h=>bW.mp h▸rfl⟩ rfl
  (fun D q R x e a M Q t=> ?_) (fun x h=>aI ⟨rfl,h.e [] (c8 _).symm⟩) fun f x h w=> ?_
 ·have v:=p q (eO e);have u:=fun m=>by
   rw[e,cd,ke] at d;exact d.2.2 q.1 m q.1 (cU _) rfl
  have l:=Ha (n:=n) (Y:=Y) (A:=.c (s.map kE)) (B:=.c (x.1.map eL)) (fun c o=>⟨a.k c o▸u,by rw[←aB,a.k c o,aB];exact(ao (by rw[e,bi];exact bu _ _) F)⟩) a.l v;have E:dP s [[]]=if 25<(fH q.1 q.2 x.1).length then[] else dP R (fH q.1 q.2 x.1):=a.e _ e
  have z:(fH q.1 q.2 x.1).length≤16777216:=by rw[vP];exact aD (k2 a.l v) rfl
  by_cases j:25<(fH q.1 q.2 x.1).length
  ·refine t (.h (.c [])) (x.1,ai) (av ⟨rfl,E.trans (aJ j)⟩) rfl fun _ k=> ?_;subst k;have c:=cu j;clear Q t a E j e p d u;obtain⟨x,b⟩:=x;induction b<;>exact bq 0 [.sub l,.p (ds:=(fH q.1 q.2 x).map eL) (aB _) z,.y c]
  ·refine Q (fH q.1 q.2 x.1,ai) ⟨fun r y=> ?_,dC j,fun c o=> ?_⟩ rfl fun _ k=> ?_
   ·rw[E,aL j];rw[e,ef] at y;exact(aS (dP · _) (rp (Dx y)).2)
   ·refine ay (pz.mp o) fun C G I=>ay (cr.mp I) fun i _ L=> ?_;rw[←L,cd,cd,a.k C G];rfl
   ·subst k;have c:=cP j;clear Q t a E j e p d u;obtain⟨x,b⟩:=x;induction b<;>exact bq 0 [.sub l,.p (ds:=(fH q.1 q.2 x).map eL) (aB _) z,.y c]
 ·have w:=w n rfl;obtain⟨x,b⟩:=x;rcases h with⟨e,h⟩|⟨e,h⟩<;>rw[e] at w<;>refine ak h ?_
  ·exact aw 0 [.sub w]
  ·induction b<;>exact aw 0 [.sub w]
theorem F6 {a:aK} (o:a.Ok) {i:Nat} (h:a.els[i]? =ac q):(q.2=0∧i<a.hs.length)∨(q.2=1∧a.hs.length≤i∧i<a.fr)∨(q.2=2∧i=a.fr∧a.rs≠[])∨(q.2=0∧a.fr<i∧a.ts≠[]):=by
 refine iN (oU o) fun g j k m=> ?_;have l:i<a.els.length:=by
  rcases EA i a.els.length with d|d
  ·exact d
  ·rw[List.getElem?_eq_none d] at h;injection h
 have l:=np▸l;have n:=o.rs;unfold aK.fr at*;by_cases c:i<a.hs.length
 ·rw[g i c] at h;injection h with h;subst h;exact .inl ⟨rfl,c⟩
 by_cases C:i<a.hs.length+a.os.length
 ·have:=j (i-a.hs.length) (b8 (.c 1 (.a .b .n1) (.a .f .g) (.c 1 (.a .j .f) .b (.g 1 (.a .j .n1) .g))) rfl C (Nat.le_of_eq (Nat.sub_add_cancel (Nat.le_of_not_lt c))));rw[show a.hs.length+(i-a.hs.length)=i by exact Nat.le_antisymm (b6 (.c 1 (.a .b .f) .g (.g 1 (.a .f .b) .g)) rfl (Nat.le_of_eq (Nat.sub_add_cancel (Nat.le_of_not_lt c)))) (b6 (.c 1 .b (.a .f .g) (.g 1 .b (.a .g .f))) rfl (Nat.sub_le_iff_le_add.mp (Nat.le_refl (i-(a.hs.length))))),h] at this;injection this with this;subst this;exact .inr (.inl (fe rfl (cD (.c 1 .b .f (.g 1 .b .f)) rfl (Nat.le_of_not_lt c)) C))
 have r:a.rs≠[]:=fun e=>by
  rw[e,(gl fun q=>o.ts q e)] at l;simp at l;exact kY 0 (b6 (.c 1 (.a .b .n1) (.a .f .g) (.c 1 (.a .f .g) .b (.g 1 .n1 .n0))) rfl l (dC C))
 by_cases f:i=a.hs.length+a.os.length
 ·have:=k r;rw[←f,h] at this;injection this with this;subst this;exact aI (aI (av (fe rfl f r)))
 ·have p:=jf.mpr r;have b:a.hs.length+a.os.length+1≤i:=rc (dC C) fun e=>f e.symm;have l:i<a.hs.length+a.os.length+1+a.ts.length:=ft l (dc (cj n _) _);have:=m (i-(a.hs.length+a.os.length+1)) (tV b l);rw[rb b,h] at this;injection this with this;subst this;exact aI (aI (aI (fe rfl b fun e=>e7 b (by rw[e] at l;exact l))))
theorem qf {a:aK} (o:a.Ok) {E:List (Nat×Nat)} (d:E.map (·.2)=a.els.map (·.2)) (h:E[i]? =ac q):(q.2=0∧i<a.hs.length)∨(q.2=1∧a.hs.length≤i∧i<a.fr)∨(q.2=2∧i=a.fr∧a.rs≠[])∨(q.2=0∧a.fr<i∧a.ts≠[]):=by
 have b:=aS (fun l:List Nat=>l[i]?) d;simp only[dX,h,n5] at b;induction c:a.els[i]?with
 |none=>have b:=c▸b;injection b
 |some p=>
  have b:=c▸b;have:q.2=p.2:=by simpa using b
  exact ak this (F6 o c)
noncomputable def o3 (S:List Nat) (v:Int) (p:(Nat×Nat)×Nat):Int:=if S.contains p.1.2 then jL p.2 else v
noncomputable def pe (S:List Nat) (E:List (Nat×Nat)):Int:=E.zipIdx.foldl (o3 S) (-1)
theorem xt:pe S E= -1∨∃(i:Nat) (q:Nat×Nat),pe S E=(i:Int)∧E[i]? =ac q∧q.2∈S:=by
 have h:∀(l:List ((Nat×Nat)×Nat)) (v:Int),l.foldl (o3 S) v=v∨∃p∈l,l.foldl (o3 S) v=jL p.2∧p.1.2∈S:=fun l=>by
  induction l with
  |nil=>exact fun v=>av rfl
  |cons p l I=>
   intro v;rcases I (o3 S v p) with h|⟨P,a,b⟩
   ·by_cases c:S.contains p.1.2=true
    ·exact .inr (gX p (.head _) (h.trans (if_pos c)) (List.contains_iff_mem.mp c))
    ·exact .inl (h.trans (if_neg c))
   ·exact .inr (bd P (.tail _ a) b)
 rcases h E.zipIdx (-1) with h|⟨p,a,b,d⟩
 ·exact .inl h
 ·exact .inr ⟨p.2,p.1,b,nH a,d⟩
section
variable{E:List (Nat×Nat)}
theorem wE (h:E.length≤100000):aE 1 161 [.l (.c (bf E)),.l (.j (S.map ag))] Y (ae (pe S E)) [] Y:=zo.of _ _ fun n d=>by
 have l:=(qn (n:=n) (g:=161) (b:=ah) [1] (fun p=>ag p.2) E.zipIdx (o3 S) (fun v=>[(8,.l (.c (bf E))),(9,.l (.j (S.map ag))),(10,.l (ae v))]) (fun _=>Y) (fun _=>True) (-1) trivial rfl fun v _ j a=>⟨trivial,a',av rfl,by
  have g:=pZ (i:=j.1.2) (O:=S);unfold o3;cases c:S.contains j.1.2<;>rw[c] at g<;>exact bq 16 [.row (hN (nH a)),.has g],rfl⟩).2
 rw[←la] at l;exact aw 0 [.p ec (aD h rfl),.le h,.sub l]
theorem Ai {r1:List ((Nat×Nat)×Nat)} {j:(Nat×Nat)×Nat}:(d++[j]).map (·.1)=d.map (·.1)++[j.1]:=cd
theorem J2 (e:E.zipIdx=d++r1):(d.map (·.1)).length≤E.length:=by
 rw[aB,←pu (l:=E),e,bi];exact bu _ _
theorem Jl (l:E.length≤100000) (o:∀(i:Nat) (q:Nat×Nat),E[i]? =ac q→q.2=1→¬(i:Int)<pe [0] E):aE 2 162 [.l (an 0),.l (.c (bf E))] Y (.c (bf E)) [] Y:=zo.of _ _ fun n k=>by
 have C:=wE (S:=[0]) (Y:=Y) l n k;generalize pe [0] E=v at C o;obtain⟨x,h,L⟩:=hm (n:=n) (g:=162) (b:=ah) [2] (fun p=>ag p.2) E.zipIdx (fun d (_:Unit)=>[(1,.l (an 0)),(8,.l (.c (bf E))),(12,.l (ae v)),(13,bE (.c (bf (d.map (·.1)))))]) (fun _ _=>Y) (fun _ _=>True) () trivial rfl fun D j r1 x e _=>⟨(),a',trivial,av rfl,by
  refine dM (tQ e) fun _ f _=> ?_;have h:=hN f;have a:fJ 3 (.c (bf (D.map (·.1)))) [.j [ag j.1.1,ag j.1.2]]=ac (a4,.c (bf ((D++[j]).map (·.1)))):=by
   unfold bf;refine ak (Ai (r1:=r1)) (ak cd ?_);exact aJ (by rw[aB];exact ao (J2 e) (aD l rfl))
  induction c:(j.1.2==1) with
  |true=>
   exact bq 0 [.row h,.x c,.H ((o j.2 j.1 f) (dL.mp c)),.u a]
  |false=>exact bq 0 [.row h,.x c,.u a],rfl⟩
 rw[xX,←la] at L;exact aw 0 [.call C,.p ec (aD l rfl),.le l,.sub L]
theorem FC:gw (E++[q])=if gw E<0 then(if 2≤q.2 then(E.length:Int) else-1) else gw E:=by
 unfold gw eh;refine ak (List.findIdx?_append) ?_;induction h:E.findIdx? fun p=>aM (2≤p.2) with
 |some i=>exact(aL (hD.mpr (gG i))).symm
 |none=>
  by_cases c:2≤q.2
  ·simp[c]
  ·simp[c]
theorem OA (h:gw E<0):gw E= -1:=by
 unfold gw at h⊢;induction e:eh E with
 |some i=>rw[e] at h;exact aR h (hD.mpr (gG i))
 |none=>rfl
theorem Nz (l:E.length≤100000) (i:∀q∈E,q.2<3) (k:gw E<0∨v≤gw E):aE 1 163 [.l (an 0),.l (.c (bf E)),.l (ae v)] Y (.c (bf E)) [] Y:=zo.of _ _ fun n t=>by
 obtain⟨x,h,L⟩:=hm (n:=n) (g:=163) (b:=ah) [1] (fun p=>ag p.2) E.zipIdx (fun d (_:Unit)=>[(1,.l (an 0)),(8,.l (.c (bf E))),(12,.l (ae v)),(16,.l (ae (gw (d.map (·.1)))))]) (fun _ _=>Y) (fun _ _=>True) () trivial rfl fun D j r1 x e _=>⟨(),a',trivial,av rfl,by
  refine dM (tQ e) fun m f _=> ?_;have h:=hN f;have s:=FC (E:=D.map (·.1)) (q:=j.1);rw[aB,←m] at s;refine ak (Ai (r1:=r1)) (ak s ?_);have a:=OA (E:=D.map (·.1));generalize gw (D.map (·.1))=o at a;by_cases c:o<0
  ·have a:=a c;subst a;refine ak (aJ c) ?_;induction C:(j.1.2==2) with
   |true=>
    refine ak (aJ (a9 (dL.mp C).symm)) ?_;exact bq 17 [.row h,.x C]
   |false=>
    refine ak (aL fun r=>c5.mp C (e8 (iW (i j.1 (eR f))) r)) ?_;exact bq 17 [.row h,.x C]
  ·refine ak (aL c) ?_;exact bq 0 [.H c],rfl⟩
 rw[xX,←la] at L;by_cases c:gw E<0
 ·exact aw 0 [.p ec (aD l rfl),.le l,.sub L,.S c]
 ·exact aw 0 [.p ec (aD l rfl),.le l,.sub L,.H c,.Z (k.resolve_left c)]
theorem Nw:lK (.j [ae 12,.j (bf E),ag r]):=by
 refine⟨?_,rfl⟩;have h:(bf E).all (aj.key 6)=true:=by unfold bf;rw[pD,cH];exact fun _ _=>rfl
 refine((ak h ?_):(af&&((bf E).all (aj.key 6)&&(af&&af)))=af);rfl
theorem Bn (I:aW R) {a:aK} (o:a.Ok) (p:E.map (·.2)=a.els.map (·.2)) (f:0<a.fr) (Z:E.length≤50) {r:Nat} (β:R.length≤900000)
  {G:Prop} (q:∀t d,aE 4 164 [.l (an 0),.l (.c (bf E)),.l (ag r)] (aF R::J) (ag t) [] (aF d::J)→aW d→bL R d→d.length≤R.length+1→d[t]? =ac (.j [ae 12,.j (bf E),ag r])→G):G:=by
 have D:E.length≤100000:=aD Z rfl;have W:∀q∈E,q.2<3:=fun q F=>by
  have⟨i,γ,e⟩:=ra F;have h {n:Nat} (e:q.2=n) (l:n<3):q.2<3:=e▸l;exact(qf o p (e▸cS γ)).elim (fun z=>h z.1 (aY rfl)) fun z=>z.elim (fun z=>h z.1 (aY rfl)) fun z=>z.elim (fun z=>h z.1 (aY rfl)) fun z=>h z.1 (aY rfl)
 have c:=wE (S:=[3]) (Y:=aF R::J) D;rw[xt.resolve_right fun z=>cE z fun i q b w δ=>aR (W q (eR w)) (by refine ak (bW.mp δ) ?_;decide)] at c;have C:=wE (S:=[2,1]) (Y:=aF R::J) D;have P:=Jl (Y:=aF R::J) D fun i q F b k=>by
  rcases xt with h|⟨j,Q,h,w,s⟩
  ·rw[h] at k;exact absurd k (Int.not_lt.mpr (Int.le_trans (by decide) (Int.natCast_nonneg i)))
  ·have k:=h▸k;have k:=Int.ofNat_lt.mp k;have s:=List.mem_singleton.mp s;have A:=qf o p F;have y:=qf o p w;have A:=((A.resolve_left fun z=>Nat.zero_ne_one (z.1.symm.trans b)).resolve_right fun z=>z.elim (fun z=>absurd (z.1.symm.trans b) (by decide)) fun z=>Nat.zero_ne_one (z.1.symm.trans b)).2;have:a.os≠[]:=fun e=>e7 A.1 (by have h:=A.2;unfold aK.fr at h;rw[e] at h;exact h);have ε:=o.alt.resolve_left this;have:=y.resolve_left fun h=>e7 (ao A.1 (gJ k)) h.2;have:=(this.resolve_left fun h=>kY 0 (dN (.c 1 .b .n0 (.c 1 .n1 .b (.g 1 .n1 .n0))) rfl (a9 s) (a9 (cB h.1)))).resolve_left fun h=>kY 0 (dN (.c 1 .b .n0 (.c 1 .n2 .b (.g 2 .n1 .n0))) rfl (a9 s) (a9 (cB h.1)));exact this.2.2 ε
 have T:=Nz (v:=pe [2,1] E) (Y:=aF R::J) D W (by
  unfold gw;refine ak (jS o p) ?_;by_cases X:a.rs=[]
  ·exact ak (aJ X) (av (by decide))
  ·refine ak (aL X) (aI ?_);rcases(xt) with h|⟨j,Q,h,w,s⟩
   ·exact ak h (Int.le_trans (by decide) (Int.natCast_nonneg a.fr))
   ·refine ak h (Int.ofNat_le.mpr ?_);have y:=qf o p w;have u:Q.2≠0:=fun e=>aR s (by rw[e];decide);exact y.elim (fun z=>aR z.1 u) fun z=>z.elim (fun z=>gJ z.2.2) fun z=>z.elim (fun z=>a9 z.2.1) fun z=>aR z.1 u)
 refine qa (J:=J) (row:=.j [ae 12,.j (bf E),ag r]) I Nw (aD β rfl) fun t d U A y ζ η=>q t d (zo.of _ _ fun n B=> ?_) A y ζ η;have c:=c n (bl B rfl);have C:=C n (bl B rfl);have P:=P n (bl B rfl);have T:=T n (bl B rfl);have U:=U n (bl B rfl);have V:=fI (n:=n) (g:=164) [0] 0 59 bc E (fun q=>[bc q]) [(1,.l (an 0)),(8,.l (.c (bf E))),(7,.l (ag r))] (aF R::J) fun q F=>by exact cZ 0 []
 have V:=cB kd▸V;have L:E.length≤16777216:=aD Z rfl;have m:(bf E).length≤b4:=ao (a9 ec) (aD Z rfl);induction b:(E.length==1) with
 |false=>
  exact aw 4096 [.le m,.sub V,.call c,.call C,.call P,.call T,.p ec L,.x b,.call U]
 |true=>
  have α:=dL.mp b;have u:E[0]? =ac (E[0]'(α▸pB)):=cS _;have M:=qf o p u;generalize E[0]'(α▸pB)=x at u M;have N:(x.2==2)=false:=c5.mpr fun e=>by rcases M with h|h|h|h<;>first|exact absurd f (h.2.1▸Nat.lt_irrefl 0)|exact absurd (e.symm.trans h.1) (by decide)
  exact aw 68719480832 [.le m,.sub V,.call c,.call C,.call P,.call T,.p ec L,.x b,.row (hN u),.x N,.call U]
end
noncomputable def gE (f:Nat→Option Nat) (p:Nat) (k:List Nat):List Nat:=match f p with|some u=>[u]|none=>k
noncomputable def aK.pick (a:aK) (f:Nat→Option Nat):aK:={a with hs:=a.hs.mapIdx (gE f)}
theorem lu {a:aK}:(a.pick f).hs.length=a.hs.length:=by unfold aK.pick;simp
theorem Aw (h:u<9):gi [u]:=kS (by simp) (by simp) (by simpa using h) (by simp;rintro rfl;exact⟨by decide,by decide⟩) (by simp;rintro rfl;decide)
theorem z3 {a:aK} (o:a.Ok) (j:∀p u,f p=ac u→∀k,a.hs[p]? =ac k→u∈k):(a.pick f).Ok:=by
 refine⟨o.rs,o.ts,fun k d=> ?_,o.c,o.alt⟩;have l:k∈(a.pick f).hs∨k∈a.os++a.rs++a.ts:=by
  simp only[dD] at d⊢;rcases d with((h|h)|h)|h
  ·exact .inl h
  ·exact .inr (.inl (.inl h))
  ·exact .inr (.inl (.inr h))
  ·exact .inr (.inr h)
 rcases l with h|h
 ·obtain⟨i,b,e⟩:=List.getElem_of_mem h;have b:=lu▸b;have E:gE f i a.hs[i]=k:=by rw[←e];exact List.getElem_mapIdx.symm
  have m:=o.nk a.hs[i] (by simp[List.getElem_mem]);induction c:f i with
  |none=>unfold gE at E;have E:=c▸E;rw[←E];exact m
  |some u=>
   unfold gE at E;have E:=c▸E;have g:=j i u c _ (cS b);rw[←E];exact⟨Aw (m.1.2.2.1 u g),fun n=>m.2 (by rw[bW.mp n];exact g)⟩
 ·refine o.nk k ?_;simp only[dD] at h⊢;rcases h with(h|h)|h
  ·exact .inl (.inl (.inr h))
  ·exact .inl (.inr h)
  ·exact .inr h
theorem b5.c:∀{l:List (List Nat×Nat)},E.length=l.length→(∀(i:Nat) (q:Nat×Nat),E[i]? =ac q→∃k O,l[i]? =ac (k,q.2)∧bH R q.1 k O∧q.2<3)→b5 R E l:=by
 induction E with
 |nil=>intro l h _;cases fs.mp h.symm;exact g'
 |cons q E I=>
  intro l h b;induction l using cn with
  |nil=>exact(by injection h)
  |cons p l=>
   refine cE (b 0 q rfl) fun j O a e f=> ?_;injection a with a;subst a;exact gQ e f (I (ue h) fun i q g=>b (i+1) q g)
noncomputable def j3 (c:List (Nat×Nat)) (E:List (Nat×Nat)):List (Nat×Nat):=E.mapIdx fun p q=>((c.lookup p).getD q.1,q.2)
noncomputable def fa (R:List aj) (c:List (Nat×Nat)) (p:Nat):Option Nat:=(c.lookup p).map (he R)
theorem HE {a:aK}:(a.pick f).els[i]? =(a.els[i]?).map fun q=>(if i<a.hs.length then gE f i q.1 else q.1,q.2):=by
 unfold aK.els;have p:(a.pick f).os=a.os∧(a.pick f).rs=a.rs∧(a.pick f).ts=a.ts:=fe rfl rfl rfl;rw[p.1,p.2.1,p.2.2,ef,ef,ef,ef];by_cases h:i<a.hs.length
 ·rw[jF (by rw[aB,lu];exact h),jF (by rw[aB];exact h)];unfold aK.pick;simp only[dX,nU,aJ h];cases a.hs[i]? <;>rfl
 ·have k:∀(X y T:List (List Nat×Nat)),X.length=y.length→¬i<X.length→(X++T)[i]? =(y++T)[i]? :=fun X y T b c=>by
   rw[jE (by exact cD (.c 1 .b .f (.g 1 .b .f)) rfl (dC c)),jE (by exact b6 (.c 1 .b .f (.c 1 .f .g (.g 1 .b .g))) rfl (a9 (cB b)) (dC c)),b]
  rw[k _ (a.hs.map (·,0)) _ (by rw[aB,aB,lu]) (by rw[aB,lu];exact h)];simp only[aL h];generalize a.hs.map (·,0)++(a.os.map (·,1)++(a.rs.map (·,2)++a.ts.map (·,0)))=T;cases T[i]? <;>rfl
theorem IZ {R:List aj} (I:aW R) {a:aK} (d:b5 R E a.els) (m:∀q∈E,q.2<3) (n:∀p i,c.lookup p=ac i→p<a.hs.length∧∃u,cq R i u):b5 R (j3 c E) (a.pick (fa R c)).els:=by
 have o:a.els.length=(a.pick (fa R c)).els.length:=by rw[np,np,lu];rfl
 refine .c (by unfold j3;rw[RQ,d.len,o]) fun i q b=> ?_;unfold j3 at b;rw[nU] at b;induction h:E[i]?with
 |none=>have b:=h▸b;injection b
 |some e=>
  rw[h] at b;simp only[n5,lN] at b;subst b;refine bK (d.at h) fun k O L P=> ?_;have f:=m e (eR h);refine ak HE (ak L ?_);unfold fa;induction l:c.lookup i with
  |none=>exact⟨k,O,by simp[gE,l],P,f⟩
  |some j=>
   refine(n i j l).elim fun t z=>z.elim fun u g=>er ([u]) ([j]) (?_) (bH.d I g) f;simp[t,gE,l,hS g]
noncomputable def j7:List (Nat×List Nat)→List (Nat×Nat)→Prop
 |[],[]=>True
 |q::s,p::c=>p.1=q.1∧p.2∈q.2∧j7 s c
 |_,_=>False
noncomputable def iT (s:List (Nat×List Nat)):Nat:=s.foldr (fun q n=>q.2.length*n) 1
theorem P4:∀{s:List (Nat×List Nat)},(∀q∈s,0<q.2.length)→0<iT s:=by
 intro s;induction s with
 |nil=>
  intro _;decide
 |cons q s i=>
  exact fun h=>Nat.mul_pos (h q (by simp)) (i fun q a=>h q (by simp[a]))
theorem zQ:∀{s:List (Nat×List Nat)} {acc:List (List (Nat×Nat))},(∀q∈s,0<q.2.length)→
  (acc.length*iT s≤25→(dP s acc).length=acc.length*iT s∧∀c,c∈dP s acc↔∃b C,c=b++C∧b∈acc∧j7 s C)∧(25<acc.length*iT s→s≠[]→dP s acc=[]):=by
 intro s;induction s with
 |nil=>
  intro acc _;refine⟨fun _=>⟨(lR _).symm,fun c=> ?_⟩,fun _ h=>aR rfl h⟩;constructor
  ·intro h;exact er c ([]) (by simp) h trivial
  ·rintro ⟨b,C,rfl,f,d⟩;induction C using cn with
   |nil=>exact(c8 _).symm▸f
   |cons _ _=>exact d.elim
 |cons x s I=>
  intro acc m;obtain⟨p,O⟩:=x;have k:∀q∈s,0<q.2.length:=fun q o=>m q (by simp[o]);have e:(fH p O acc).length*iT s=acc.length*iT ((p,O)::s):=by rw[vP];show _=acc.length*(O.length*iT s);rw[En]
  have r:(fH p O acc).length≤acc.length*iT ((p,O)::s):=ak (cB e) (Rj _ (P4 k));obtain⟨t,u⟩:=I k;constructor
  ·intro h;have n:¬25<(fH p O acc).length:=e7 (cD (.c 1 .b .f (.c 1 .f (.n 25) (.g 1 .b (.n 25)))) rfl r h);obtain⟨a,A⟩:=t (by refine ak e ?_;exact h);have E:dP ((p,O)::s) acc=dP s (fH p O acc):=aL n;refine ak E (⟨by rw[a,e],fun c=> ?_⟩);rw[A];constructor
   ·rintro ⟨b,C,rfl,f,d⟩;refine ay (pz.mp f) fun v g j=>ay (cr.mp j) fun i w y=> ?_;subst y;exact⟨v,(p,i)::C,by simp,g,rfl,w,d⟩
   ·rintro ⟨b,C,rfl,f,d⟩;induction C using cn with
    |nil=>exact d.elim
    |cons q C=>
     refine dM d fun g j z=>er (b++[q]) C (by simp) ((pz.mpr ⟨b,f,cr.mpr ⟨q.2,j, ?_⟩⟩)) z;rw[←show q.1=p from g]
  ·intro h _;by_cases n:25<(fH p O acc).length
   ·exact aJ n
   ·have E:dP ((p,O)::s) acc=dP s (fH p O acc):=aL n;refine ak E ?_;by_cases l:s=[]
    ·subst l;exfalso;rw[←e] at h;simp[iT] at h;exact kY 0 (dN (.c 1 .b (.n 25) (.c 1 (.a (.n 25) .n1) .b (.g 1 .n1 .n0))) rfl (dC n) h)
    ·exact u (by rw[e];exact h) l
def iS (a:aK) (ls:List aK) (f:Nat→Option Nat):Prop:=∀p,(p∈gf a ls→∃u,f p=ac u∧u∈(a.hs[p]?).getD [])∧(p∉gf a ls→f p=ah)
noncomputable def cw (a:aK) (ls:List aK):Nat:=(gf a ls).foldr (fun p n=>((a.hs[p]?).getD []).length*n) 1
def hh (a:aK) (ls:List aK):Prop:=(1<cw a ls∧cw a ls<26)∧∀f,iS a ls f→∃l∈ls,db (a.pick f) l
theorem Ih (h:p∈gf a ls):p<a.hs.length:=hB.mp (c_.mp h).1
theorem j7.keys:∀{s:List (Nat×List Nat)} {c:List (Nat×Nat)},j7 s c→c.map (·.1)=s.map (·.1)
 |[],[],_=>rfl
 |[],_::_,h=>h.elim
 |_::_,[],h=>h.elim
 |_::_,_::_,h=>by simp only[eE];rw[h.1,h.2.2.keys]
theorem j7.get:∀{s:List (Nat×List Nat)} {c:List (Nat×Nat)},j7 s c→∀{p i:Nat},c.lookup p=ac i→∃O,(p,O)∈s∧i∈O
 |[],[],_,p,i,h=>by injection h
 |[],_::_,h,_,_,_=>h.elim
 |_::_,[],h,_,_,_=>h.elim
 |q::s,r::c,h,p,i,l=>by
  refine dM h fun a b d=> ?_;rw[show r=(r.1,r.2) from rfl,fP] at l;by_cases e:p=r.1
  ·rw[show(p==r.1)=af by simp[e]] at l;injection l with l;subst l;exact⟨q.2,by rw[e,a];simp,b⟩
  ·rw[c5.mpr e] at l;exact ay (d.get l) fun O f g=>bd O (je _ f) g
theorem yX:∀{c:List (Nat×Nat)},p∉c.map (·.1)→c.lookup p=none:=by
 intro c;induction c with
 |nil=>
  intro _;rfl
 |cons q c i=>
  intro h;simp only[eE,eS,not_or] at h;rw[show q=(q.1,q.2) from rfl,fP,c5.mpr h.1];exact i h.2
theorem zw {c:List (Nat×Nat)} (h:p∈c.map (·.1)):∃i,c.lookup p=ac i:=mW.mp (List.lookup_isSome_iff.mpr ((cr.mp h).imp fun q h=>⟨h.1,dL.mpr h.2.symm⟩))
section
theorem hg.cnt_eq (I:aW R) (h:hg R a ls a.hs.length s):iT s=cw a ls:=by
 unfold cw gf;rw[←h.b];have:=h.ids;clear h;induction s with
 |nil=>rfl
 |cons q s i=>
  refine bK (this q (by simp)) fun t k c d=> ?_;show q.2.length*iT s=_;rw[i fun q e=>this q (by simp[e]),d.len_eq I];simp[c]
theorem hg.pick (I:aW R) (h:hg R a ls a.hs.length s) (n:j7 s c):(∀p i,c.lookup p=ac i→p<a.hs.length∧∃u,cq R i u∧u∈(a.hs[p]?).getD [])∧iS a ls (fa R c):=by
 have y:∀p i,c.lookup p=ac i→p<a.hs.length∧∃u,cq R i u∧u∈(a.hs[p]?).getD []:=fun p i l=>by
  refine ay (n.get l) fun O q r=>bK (h.ids _ q) fun t k d v=>ay (v.to i r) fun u e w=> ?_;have x:p<a.hs.length:=by
   rcases EA p a.hs.length with f|f
   ·exact f
   ·rw[List.getElem?_eq_none f] at d;injection d
  exact⟨x,u,w,by rw[d];exact e⟩
 have g:=n.keys;rw[h.b] at g;refine⟨y,fun p=>⟨fun j=> ?_,fun j=> ?_⟩⟩
 ·refine(zw (by rw[g];exact j)).elim fun i o=> ?_;obtain⟨_,u,e,m⟩:=y p i o;exact bd u (by unfold fa;rw[o,n5,hS e]) m
 ·unfold fa;rw[yX (by rw[g];exact j)];rfl
theorem hg.back (I:aW R) (h:hg R a ls a.hs.length S) (x:iS a ls f):∃c,j7 S c∧fa R c=f:=by
 have g:∀(s:List (Nat×List Nat)),(∀q∈s,q∈S)→∃c,j7 s c∧∀p i,c.lookup p=ac i→f p=ac (he R i):=by
  intro s;induction s with
  |nil=>exact fun _=>⟨[],trivial,fun _ _ h=>by injection h⟩
  |cons q s y=>
   refine fun r=>ay (y fun q z=>r q (by simp[z])) fun c n v=>bK (h.ids q (r q (by simp))) fun t k A B=> ?_;have d:q.1∈gf a ls:=by
    have:q.1∈S.map (·.1):=cr.mpr (bd q (r q (by simp)) rfl);rw[h.b] at this;exact this
   refine ay ((x q.1).1 d) fun u C m=> ?_;rw[A] at m;refine ay (B.fr u m) fun i o D=>bd ((q.1,i)::c) (⟨rfl,o,n⟩) (fun p j l=> ?_);rw[fP] at l;by_cases e:p=q.1
   ·rw[show(p==q.1)=af by simp[e]] at l;injection l with l;subst l;rw[e,C,hS D]
   ·rw[c5.mpr e] at l;exact v p j l
 refine ay (g S fun q h=>h) fun c n v=>bd c n (funext fun p=> ?_);have w:=n.keys;rw[h.b] at w;by_cases d:p∈gf a ls
 ·obtain⟨i,o⟩:=zw (by rw[w];exact d);unfold fa;rw[o,v p i o];rfl
 ·rw[(x p).2 d];unfold fa;rw[yX (by rw[w];exact d)];rfl
theorem hg.chosen (I:aW R) (h:hg R a ls a.hs.length s):(1<(dP s [[]]).length∧∀c∈dP s [[]],∃l∈ls,db (a.pick (fa R c)) l)↔hh a ls:=by
 have p:=fun q n=>by
  exact bK (h.ids q n) fun t k _ o=>(o.idn I).2
 obtain⟨S,j⟩:=zQ p;rw[show(([[]]:List (List (Nat×Nat))).length)=1 from rfl,rv] at S j;unfold hh;refine ak (cB (h.cnt_eq I)) ?_;have m:iT s≤25→∀c,c∈dP s [[]]↔j7 s c:=fun r c=>by
  rw[(S r).2];constructor
  ·refine fun z=>cE z fun C x y d i=> ?_;subst y;refine ak (bW.mp d) ?_;exact i
  ·exact fun h=>⟨[],c,rfl,by simp,h⟩
 by_cases g:iT s≤25
 ·refine ak ((S g).1) ?_;constructor
  ·rintro ⟨d,i⟩;refine⟨⟨d,dN (.c 1 .b (.n 25) (.g 1 (.a .b .n1) (.n 26))) rfl g⟩,fun f u=>(ay (h.back I u) fun c v y=> ?_)⟩;subst y;exact i c ((m g c).mpr v)
  ·rintro ⟨⟨d,_⟩,i⟩;exact⟨d,fun c w=>i _ (h.pick I ((m g c).mp w)).2⟩
 ·constructor
  ·rintro ⟨d,_⟩;rw[j (dN (.c 1 (.a (.n 25) .n1) .b (.g 1 (.a (.n 25) .n1) .b)) rfl (f' g)) (fun e=>by subst e;exact g (by decide))] at d;simp at d
  ·rintro ⟨⟨_,d⟩,_⟩;exact aR (iW d) g
end
theorem b5.els (h:b5 R E l):oH R (bf E) l:=h.rec .nil fun a _ _ i=>.cons a i
theorem IR:∀{c:List (Nat×Nat)},f1 (ag p) (ht c)=(c.lookup p).map ag:=by
 intro c;induction c with
 |nil=>rfl
 |cons x c i=>
  obtain⟨a,b⟩:=x;show(if aj.beq (ag a) (ag p)=af then ac (ag b) else f1 (ag p) (ht c))=_
  rw[mh,fP,i];by_cases e:a=p
  ·subst e;rw[aJ (cu rfl),iX];rfl
  ·rw[aL (fun h=>e (dB h)),c5.mpr fun h=>e h.symm]
def sV (R:List aj) (Pr:List (Nat×Nat)):Prop:=∀p∈Pr,(∃l,cg R p.1 l)∧∃q,R[p.2]? =ac (.j [ae 6,q])
theorem sV.mono (x:bL R r) (h:sV R Pr):sV r Pr:=fun p a=>(h p a).elim fun z Z=>z.elim fun l b=>Z.elim fun q c=>⟨⟨l,b.mono x⟩,q,x.at c⟩
theorem cg.not6 (h:cg R t l) (a:R[t]? =ac (.j [ae 6,q])):False:=by
 refine cE h.hd fun c x b e _=> ?_;exact aR e (by rw[←show(6:Int)=c from(aS kW (a.symm.trans b))];decide)
def mA (R:List aj) (O:List Nat) (isL:Nat→Bool) (A:Nat→aK):Prop:=∀j∈O,(isL j=af→cg R j (A j)∧(A j).els.length≤50)∧(isL j=ai→∃u,cq R j u)
theorem mA.mono (x:bL R r) (h:mA R O isL A):mA r O isL A:=fun j a=>⟨fun l=>⟨((h j a).1 l).1.mono x,((h j a).1 l).2⟩,fun l=>((h j a).2 l).elim fun u b=>⟨u,b.mono x⟩⟩
theorem hg.chs_facts (I:aW R) (h:hg R a ls a.hs.length s):(dP s [[]]).length≤25∧(∀y∈dP s [[]],j7 s y)∧(1<(dP s [[]]).length→(dP s [[]]).length=cw a ls):=by
 refine(zQ (acc:=[[]]) fun q i=>bK (h.ids q i) fun t k _ d=>(d.idn I).2).elim fun S f=> ?_;rw[show(([[]]:List (List (Nat×Nat))).length)=1 from rfl,rv] at S f;by_cases c:iT s≤25
 ·refine(S c).elim fun g j=> ?_;refine fe (g▸c) (fun y l=> ?_) (fun _=>g.trans (h.cnt_eq I));refine cE ((j y).mp l) fun C n e m d=> ?_;rw[e,bW.mp m];exact d
 ·rw[f (f' c) (fun e=>by subst e;exact c (aY rfl))];exact fe (aY rfl) (fun _ h=>(by cases h)) (fun h=>aR h (by decide))
theorem Qu (x:bL R r) (h:∀p i,c.lookup p=ac i→∃u,cq R i u):fa r c=fa R c:=funext fun p=>by
 unfold fa;induction l:c.lookup p with
 |none=>rfl
 |some i=>
  refine(h p i l).elim fun u a=> ?_;rw[n5,n5,hS a,hS (a.mono x)]
theorem cg.d (o:a.Ok) (h:R[t]? =ac (.j [ae 12,.j (bf E),ag a.c])) (b:b5 R E a.els) (f:0<a.fr):cg R t a:=⟨o,aI (gX _ h b.els f)⟩
noncomputable def j2 (s ro:Nat) (X:aj) (E:List (Nat×Nat)) (js:List Nat) (cs:List (List (Nat×Nat))):au:=[(27,.l (an 2)),(29,.l (ag s)),(23,.l X),(34,.l (an 1)),(20,.l (.j [ae 12,.j (bf E),ag ro])),(63,.l (.c (js.map ag))),(64,.l (.c (cs.map eL)))]
section
theorem Lv:cc bw (aZ n) (eu 256 [5,0] 0 58 (f4 0 (jL E.length)) (j2 s ro X E js cs++[(62,.l (eL y))]) Y) (.h (.c (bf (j3 y E)))) (j2 s ro X E js cs++[(62,.l (eL y))]) Y:=by
 have c:=fI (n:=n) (g:=256) [5,0] 0 58 (fun p=>ag p.2) E.zipIdx (fun p=>[bc ((y.lookup p.2).getD p.1.1,p.1.2)]) (j2 s ro X E js cs++[(62,.l (eL y))]) Y fun p h=>by
  have g:=nt (hN (nH h));have k:(ow (ag p.2) (ht y) (ag p.1.1)).e=ac (ag ((y.lookup p.2).getD p.1.1)):=by
   show(if _ then ac ((f1 (ag p.2) (ht y)).getD (ag p.1.1)) else ah)=_
   rw[aJ At,IR,Option.getD_map]
  exact cZ 273 [.get g,.F k,.get g]
 rw[←kd,←la] at c;have e:bf (j3 y E)=E.zipIdx.map fun p=>bc ((y.lookup p.2).getD p.1.1,p.1.2):=by
  unfold bf j3;refine ak List.mapIdx_eq_zipIdx_map (ak eg ?_);rfl
 exact ak e c
theorem Pq {m M:bh} (z:E.length≤50) (c:aZ n 164 [.l (an 0),.l (.c (bf (j3 y E))),.l (ag ro)] (m.st R) (ag t) [] (m.st r))
  (C:aZ n 218 [.l (an 2),.l (ag t),.l (.c (js.map ag))] (m.st r) (aA b) [] (M.st a)):ff n 256 [5] (hn (j2 s ro X E js cs)) (eL y) (j2 s ro X E js cs) (m.st R) (if b then a' else .h (aA ai)) (j2 s ro X E js cs) (M.st a):=by
 have h:E.length≤100000:=aD z rfl;have d:(f4 0 (jL E.length)).length≤b4:=by rw[la,aB,pu];exact aD z rfl
 induction b<;>exact bq 65537 [.G ec (aD z rfl),.le h,.le d,.sub (Lv (s:=s) (ro:=ro) (X:=X) (E:=E) (y:=y) (js:=js) (cs:=cs) (Y:=m.st R)),.call c,.call C]
theorem K2 {m:bh} (f:mA R O isL A):cc bw (aZ n) (eu 256 [2] 0 59 (O.map ag) [(27,.l (an 2)),(29,.l (ag s)),(23,.l X),(34,.l (an 1)),(20,.l r)] (m.st R)) (.h (.c ((O.filter isL).map ag))) [(27,.l (an 2)),(29,.l (ag s)),(23,.l X),(34,.l (an 1)),(20,.l r)] (m.st R):=by
 have C:=fI (n:=n) (g:=256) [2] 0 59 ag O (fun j=>if isL j then[ag j] else[]) [(27,.l (an 2)),(29,.l (ag s)),(23,.l X),(34,.l (an 1)),(20,.l r)] (m.st R) fun j i=>by
  have h:∃c x,R[j]? =ac (.j (ae c::x))∧cX (ae c) (.j [ae 11,ae 12])=ac (isL j):=by
   induction b:isL j with
   |true=>
    exact cE (((f j i).1 b).1.hd) fun c x e d _=>⟨c,x,e,by rcases d with rfl|rfl<;>rfl⟩
   |false=>
    have⟨u,k⟩:=(f j i).2 b;exact cE k.head fun c x e d _=>cL c x e (by rcases d with rfl|rfl|rfl|rfl<;>rfl)
  refine bK h fun c x e d=> ?_;cases b:isL j<;>rw[b] at d<;>exact cZ 0 [.row e,.get (eK (a:=ae c) (x:=x)),.has d]
 rw[ng] at C;exact C
end
structure sr (R:List aj) (Pr:List (Nat×Nat)) (a:aK) (E:List (Nat×Nat)) (js:List Nat) (A:Nat→aK) (c:Nat) (m:bh):Prop where
 ok:eC R Pr m
 g:d8 m.tw
 q:a.Ok
 hE:b5 R E a.els
 l:E.length≤50
 r:0<a.fr
 h3:a.hs.length≤3
 hA:∀j∈js,cg R j (A j)∧(A j).els.length≤50
 o:js.length≤100
 hPr:sV R Pr
 hc:∀f,iS a (js.map A) f→∀j∈js,(a.pick f).W*(A j).els.length+2≤c
 d:m.dp<58
 hne:m.tr≠[]∨(Pr=[]∧m.tel=ai)
 n:R.length≤500000
structure wL (R:List aj) (Pr:List (Nat×Nat)) (m:bh) (a:aK) (js:List Nat) (A:Nat→aK) (c:Nat) (d:List (List (Nat×Nat))) (x:bh×List aj):Prop where
 I:aW x.2
 ex:bL R x.2
 z:x.2.length≤R.length+d.length*(1+101*js.length)
 g:dV x.2 Pr m x.1 (c*js.length*d.length)
 w:d8 x.1.tw
 hd:∀y∈d,∃l∈js.map A,db (a.pick (fa R y)) l
 n1:a.c≠0∨m.tel=ai→x.1.N=m.N
section
theorem sr.pick (b:sr R Pr a E js A c m) (I:aW f) (X:bL R f) (s:hg f a (js.map A) a.hs.length S) (C:j7 S y) (D:aW w) (x:bL f w):
  b5 w (j3 y E) (a.pick (fa f y)).els∧(a.pick (fa f y)).Ok∧iS a (js.map A) (fa f y):=by
 refine(s.pick I C).elim fun t F=>fe (?_) (z3 b.q fun p u j k G=> ?_) F
 ·rw[←Qu x fun p i h=>(t p i h).elim fun _ z=>z.elim fun u Z=>Z.elim fun j _=>⟨u,j⟩];exact IZ D (b.hE.mono (X.trans x)) b.hE.lt3 fun p i h=>(t p i h).elim fun L z=>z.elim fun u Z=>Z.elim fun j _=>⟨L,u,j.mono x⟩
 ·unfold fa at j;refine ay (dg.mp j) fun i M e=>(t p i M).elim fun _ z=>z.elim fun v Z=>Z.elim fun N B=> ?_;rw[hS N] at e;rw[G] at B;exact e▸B
theorem Hq (b:sr R Pr a E js A c m) (I:aW u) (β:bL R u) (Z:u.length≤R.length+20000) (S:hg u a (js.map A) a.hs.length π) (ρ:j7 π y) (g:wL u Pr m a js A c d x) (σ:d.length+1≤25)
  (γ:m.a+c*js.length*(d.length+1)+1≤20000) (N:m.N≤60000)
  {G:Prop} (q:∀t D w v r,aE 4 164 [.l (an 0),.l (.c (bf (j3 y E))),.l (ag a.c)] (x.1.st x.2) (ag t) [] (x.1.st D)→aE 27 218 [.l (an 2),.l (ag t),.l (.c (js.map ag))] (x.1.st D) (aA r) [] (w.st v)→
   aW v→bL u v→v.length≤u.length+(d.length+1)*(1+101*js.length)→dV v Pr m w (c*js.length*(d.length+1))→d8 w.tw→(r=af↔∃j∈js,db (a.pick (fa u y)) (A j))→(r=af→a.c≠0∨m.tel=ai→w.N=m.N)→G):G:=by
 refine dM (b.pick I β S ρ g.I g.ex) fun V o τ=> ?_;have δ:(j3 y E).length≤50:=by unfold j3;exact ak RQ b.l
 have f:0<(a.pick (fa u y)).fr:=by unfold aK.fr;exact ak lu b.r
 have ε:x.2.length+1+101*js.length≤u.length+(d.length+1)*(1+101*js.length):=by
  rw[um,rv,ev,←ev u.length];exact dc g.z _
 have υ:(d.length+1)*(1+101*js.length)≤25*(1+101*100):=k2 σ (cj (fh _ b.o) _);have ζ:x.2.length+1+101*js.length≤790000:=ao ε (ao (dd (ao Z (dc b.n _)) υ) (aY rfl));have W:c*js.length*(d.length+1)=c*js.length*d.length+c*js.length:=Ey _ _;have η:x.1.a+c*js.length+1≤20000:=by have:=g.g.l;exact e6 (.c 1 (.a (.a .b .f) .n1) (.n 20000) (.c 1 (.a .g .j) .f (.c 1 .l (.a .b .g) (.g 1 (.a (.a .l .j) .n1) (.n 20000))))) rfl γ (a9 (cB W)) this
 have θ:x.1.N+c*js.length≤80000:=by have:=g.g.j;exact jR (.c 1 (.a (.a .b .f) .n1) (.n 20000) (.c 1 .g (.n 60000) (.c 1 (.a .j .l) .f (.c 1 .o (.a .g .j) (.g 1 (.a .o .l) (.n 80000)))))) rfl γ N (a9 (cB W)) this
 refine Bn (J:=x.1.rest) g.I o V.marks f δ (r:=a.c) (ao (bu _ (1+101*js.length)) (ao (a9 (ev ..).symm) (aD ζ rfl))) fun t D C φ F ι χ=> ?_;have ψ:cg D t (a.pick (fa u y)):=.d o χ (V.mono F) f;have κ:=V.len▸δ;refine g.g.tr.elim fun X μ=> ?_
 refine Co (s:=t) (k:=26) (z:=101) (P:=fun j=>db (a.pick (fa u y)) (A j)) (q:=fun j=>(A j).c≠0∨t=j) φ (g.g.ok.mono F) g.w (aI rfl)
  (b.hne.imp (fun h e=>h (pk.mp (μ▸e)).1) fun h=>g.g.tel.trans h.2) (by decide) (fun j Q b₁ v i ν M b₂ q=> ?_) (kg η) (aD θ rfl) fun w v r ω n=> ?_
 ·refine(b.hA j Q).elim fun L ξ=> ?_;have α:=b.hc _ τ j Q;have T:=((β.trans g.ex).trans F).trans M.x;have ο:=fh c ν;have a₀:=M.g.l;have a₁:=M.N;have a₂:v.length≤800000:=by have:=M.z;exact e6 (.c 1 (.a (.a .b .n1) (.m 101 .f)) (.n 790000) (.c 1 .g (.a .b .n1) (.c 101 (.a .j .n1) .f (.c 1 .l (.a .g (.m 101 .j)) (.g 1 .l (.n 800000)))))) rfl ζ ι ν this
  refine vg M.I M.g.ok M.w (ψ.mono M.x) (L.mono T) κ ξ a₂ (fun p a₃=>((b.hPr p a₃).1).elim fun l U=>⟨l,U.mono T⟩) (fun a₄=>(b.hPr _ a₄).elim fun _ Z=>Z.elim fun q a₅=>(L.mono T).not6 (T.at a₅)) (ao (dc (ao (dd a₀ (pm α)) (ao (a9 (ev ..)) (cj ο _))) 1) η) (a₁▸aD (ao (cj (ao (kg α) (ao (Rj c (m3 i)) ο)) _) θ) rfl) (M.g.dp.trans g.g.dp▸b.d)
   (b.hne.imp (fun h e=>h (pk.mp (μ▸(M.t▸e))).1) (·.1)) fun a₆ a₇ r a₈ B=>q a₆ a₇ r a₈ ⟨B.I,B.x,ao B.z (cj (b3 (dd κ ξ)) _),B.g.le α,B.w,B.iff,B.n0,B.n1,B.n2⟩
 ·refine q t D w v r C ω n.I (g.ex.trans (F.trans n.x)) (ao n.z (ao (dc ι _) ε)) (W▸g.g.trans n.g) n.w n.iff fun a₉ h=> ?_;rw[←g.n1 h];exact ay (n.iff.mp a₉) fun j Q U=>n.n1 (h.imp (fun b₀=>gX j Q U (av fun e=>b₀ (rx.mp (e▸U.1)))) g.g.tel.trans)
theorem P1 (b:sr R Pr a E js A c m) (I:aW o) (v:bL R o) (Z:o.length≤R.length+20000) (S:hg o a (js.map A) a.hs.length p) (β:∀y∈cs,j7 p y) (B:cs.length≤25) (k:m.a+c*js.length*cs.length+1≤20000) (γ:m.N≤60000)
  {G:Prop} (q:∀(r:Bool) x,(∀n,27≤n→cc bw (aZ n) (dS 256 [5] ah (cs.map eL) (j2 s a.c X E js cs) (m.st o)) (if r then a' else .h (aA ai)) (j2 s a.c X E js cs) (x.1.st x.2))→(r=af→wL o Pr m a js A c cs x)→
   (r=ai→aW x.2∧bL o x.2∧x.2.length≤o.length+25*(1+101*js.length)∧dV x.2 Pr m x.1 (c*js.length*cs.length)∧d8 x.1.tw∧∃y∈cs,¬∃j∈js,db (a.pick (fa o y)) (A j))→G):G:=by
 refine p5 (N:=(27≤·)) (g:=256) (b:=ah) [5] eL cs (fun _:bh×List aj=>j2 s a.c X E js cs) (fun x=>x.1.st x.2) (wL o Pr m a js A c)
  (fun f x=>f=a'∧wL o Pr m a js A c cs x∨f=.h (aA ai)∧aW x.2∧bL o x.2∧x.2.length≤o.length+25*(1+101*js.length)∧dV x.2 Pr m x.1 (c*js.length*cs.length)∧d8 x.1.tw∧∃y∈cs,¬∃j∈js,db (a.pick (fa o y)) (A j))
  (m,o) ⟨I,.f,bu _ _,(dV.f (b.ok.mono v)),b.g,(fun _ h=>(by cases h)),fun _=>rfl⟩ rfl (fun d y ι x e F κ Q δ=> ?_) (fun x h=>av ⟨rfl,h⟩) fun f x h w=> ?_
 ·have D:d.length+1≤cs.length:=by exact ak e (ak bi (cj (b3 (cA _)) _))
  have C:=fh (c*js.length) D;have L:=eO e;refine Hq b I v Z S (β y L) F (ao D B) (ao (b3 (cj C _)) k) γ fun t μ M P r ε ζ i U z V W α η=> ?_;have T {n:Nat} (u:27≤n):=Pq (s:=s) (X:=X) (cs:=cs) b.l (ε n (bl u rfl)) (ζ n u);induction r with
  |true=>
   refine ay (α.mp rfl) fun j θ l=> ?_;refine Q (M,P) ⟨i,U,by refine ak bi ?_;exact z,by refine ak bi ?_;exact V,W,ja F.hd ⟨_,q_ θ,l⟩,η rfl⟩ rfl fun n u=>T u
  |false=>exact δ (.h (aA ai)) (M,P) (aI ⟨rfl,i,U,ao z (cj (pq _ (ao D B)) _),V.le C,W,y,L,fun h=>nomatch α.mpr h⟩) rfl fun n u=>T u
 ·rcases h with⟨e,h⟩|⟨e,h⟩
  ·exact q true x (fun n u=>e▸w n u) (fun _=>h) fun e=>(by injection e)
  ·exact q ai x (fun n u=>e▸w n u) (fun e=>(by injection e)) fun _=>h
end
structure S' (R:List aj) (Pr:List (Nat×Nat)) (m:bh) (a:aK) (ls:List aK) (c:Nat) (b:bh) (d:List aj) (r:Bool):Prop where
 I:aW d
 x:bL R d
 z:d.length≤R.length+300000
 g:dV d Pr m b c
 w:d8 b.tw
 iff:r=af↔hh a ls
 n1:r=af→a.c≠0∨m.tel=ai→b.N=m.N
 n2:r=af→a.c=0→m.tel=af→m.N<b.N
section
variable{a:aK} {m:bh}
theorem wd {b:bh} (q:18≤k) (f:X=.j (O.map ag)∨X=.c (O.map ag)) (u:mA R O isL A) (v:O.length≤100) (g:R[s]? =ac (.j [ae 12,.j (bf E),ag a.c]))
  (c:aE 18 255 [.l (an 2),.l (.j [ae 12,.j (bf E),ag a.c]),.l (.c ((O.filter isL).map ag))] (m.st R) (.c (S.map kE)) [] (m.st i))
  (C:aE 1 254 [.l (.c (S.map kE))] (m.st i) (.c ((dP S [[]]).map eL)) [] (m.st i)) (x:(dP S [[]]).length≤25)
  (w:∀n,k≤n→aM ((dP S [[]]).length<2)=ai→cc bw (aZ n) (dS 256 [5] ah ((dP S [[]]).map eL) (j2 s a.c X E (O.filter isL) (dP S [[]])) (m.st i)) (if r then a' else .h (aA ai)) (j2 s a.c X E (O.filter isL) (dP S [[]])) (b.st t))
  (y:aM ((dP S [[]]).length<2)=af→r=ai∧b.st t=m.st i) (B:b.N≤1000000):
  aE (k+1) 256 [.l (an 2),.l (ag s),.l X] (m.st R) (aA r) [] ((if r&&a.c==0 then{b with N:=if b.tel then b.N+1 else b.N} else b).st t):=zo.of _ _ fun n j=>by
 have c:=c n (ao q j);have C:=C n (bl (ao q j) rfl);have o:=K2 (n:=n) (s:=s) (X:=X) (m:=m) u (r:=.j [ae 12,.j (bf E),ag a.c]);have l:(O.map ag).length≤b4:=by rw[aB];exact aD v rfl
 have z:(dP S [[]]).length≤16777216:=aD x rfl;have w:=w n j;generalize dP S [[]]=e at*;induction d:aM (e.length<2) with
 |true=>
  refine(y d).elim fun D F=> ?_;subst D;refine ak (show(if(ai&&a.c==0)=af then{b with N:=if b.tel then b.N+1 else b.N} else b)=b from rfl) (ak F ?_)
  rcases f with rfl|rfl<;>exact aw 0 [.row g,.le l,.sub o,.call c,.call C,.p (ds:=e.map eL) (List.length_map _) z,.A d]
 |false=>
  have w:=w d;induction r with
  |false=>rcases f with rfl|rfl<;>exact aw 0 [.row g,.le l,.sub o,.call c,.call C,.p (ds:=e.map eL) (List.length_map _) z,.A d,.sub w]
  |true=>
   induction p:(a.c !=0) with
   |true=>
    refine ak (show(af&&a.c==0)=ai from c5.mpr (k5.mp p)) ?_;rcases f with rfl|rfl<;>exact aw 4294967296 [.row g,.le l,.sub o,.call c,.call C,.p (ds:=e.map eL) (List.length_map _) z,.A d,.sub w,.E p]
   |false=>
    refine ak (show(af&&a.c==0)=af from dL.mpr (gl fun h=>cp (p.symm.trans (k5.mpr h)))) ?_;rcases f with rfl|rfl<;>exact aw 4294967296 [.row g,.le l,.sub o,.call c,.call C,.p (ds:=e.map eL) (List.length_map _) z,.A d,.sub w,.E p,.call (rW (R:=t) B n (bl (Nat.le_trans q j) rfl))]
theorem AO (I:aW R) (b:sr R Pr a E (O.filter isL) A c m) (Q:R[s]? =ac (.j [ae 12,.j (bf E),ag a.c])) (T:X=.j (O.map ag)∨X=.c (O.map ag)) (U:mA R O isL A) (V:O.length≤100)
  (v:cw a ((O.filter isL).map A)<26→m.a+c*(O.filter isL).length*cw a ((O.filter isL).map A)+1≤20000) (ε:cw a ((O.filter isL).map A)<26→m.N≤60000) (ν:m.N≤100000)
  {G:Prop} (q:∀ζ B r,aE 28 256 [.l (an 2),.l (ag s),.l X] (m.st R) (aA r) [] (ζ.st B)→S' R Pr m a ((O.filter isL).map A) (c*(O.filter isL).length*cw a ((O.filter isL).map A)+1) ζ B r→G):G:=by
 have η:=fh 3 (fh 52 b.o);refine G5 (m:=m) I b.q b.hE b.l b.h3 b.hA (aD b.o rfl) (aD (dd b.n η) rfl) fun D p C i f z S=> ?_;have z:D.length≤R.length+20000:=ao z (cj (aD η rfl) _);have ξ:p.length≤3:=by
  have:=aS gK S.b;rw[aB] at this;exact this▸ao (hY _ _) (by refine ak gm ?_;exact b.h3)
 have α:=J1 (Y:=m.st D) (aD ξ rfl) (fun q ο=>bK (S.ids q ο) fun t k _ h=>aD (h.idn i).1 rfl) (by refine ak S.b ?_;exact D5.sublist mX);have β:=S.chosen i;refine dM (S.chs_facts i) fun u π ρ=> ?_;have θ {B:List aj} (h:B.length≤D.length+25*(1+101*(O.filter isL).length)):B.length≤R.length+300000:=ao h (ao (dd z (fh 25 (cj (fh 101 b.o) 1))) (ao (a9 (ev ..)) (cj (aY rfl) _)));by_cases d:(dP p [[]]).length<2
 ·exact q m D ai (wd (aY rfl) T U V Q C α u (fun n _ h=>nomatch(cu d).symm.trans h) (fun _=>⟨rfl,rfl⟩) (aD ν rfl))
   ⟨i,f,ao z (cj (aY rfl) _),(dV.f (b.ok.mono f)).le (cA _),b.g,⟨(fun h=>hU h),fun h=>aR (β.mpr h).1 (e7 (iW d))⟩,(fun h=>hU h),fun h=>hU h⟩
 ·have d:=dC d;have ι:=ρ d;have γ:=ι▸t4 u;have v:=v γ;rw[←ι] at v q;refine P1 b i f z S π u v (ε γ) (s:=s) (X:=X) fun r x w F σ=> ?_;have N:aM ((dP p [[]]).length<2)=af→r=ai∧x.1.st x.2=m.st D:=fun h=>nomatch(cP (e7 d)).symm.trans h;induction r with
  |false=>
   have⟨τ,υ,Z,g,W,y,φ,χ⟩:=σ rfl;exact q x.1 x.2 ai (wd (aY rfl) T U V Q C α u (fun n δ _=>w n δ) N (aD g.ok.N rfl)) ⟨τ,f.trans υ,θ Z,g.le (fQ _),W,⟨(fun h=>hU h),fun h=>(ay ((β.mpr h).2 y φ) fun l ψ ω=>(ay (cr.mp ψ) fun j a₀ e=>aR (bd j a₀ (e▸ω)) χ))⟩,(fun h=>hU h),fun h=>hU h⟩
  |true=>
   have o:=F rfl;have Z:=θ (ao o.z (cj (pq _ u) _));have L:=wd (aY rfl) T U V Q C α u (fun n δ _=>w n δ) N (aD o.g.ok.N rfl);have κ:=β.mp ⟨d,o.hd⟩;have μ:=o.g.le (fQ _);by_cases P:a.c=0
   ·rw[show(af&&a.c==0)=af from dL.mpr P] at L;have e:(if x.1.tel=af then x.1.N+1 else x.1.N)≤x.1.N+1∧x.1.N≤if x.1.tel=af then x.1.N+1 else x.1.N:=by split;exact⟨bv _,fQ _⟩;exact⟨fQ _,bv _⟩
    have N:=o.g.j;refine q _ x.2 af L ⟨o.I,f.trans o.ex,Z,μ.withN e.2 (ao e.1 (b3 N)) (ao e.1 (ao (b3 N) (b6 (.c 1 .b (.n 60000) (.c 1 (.a (.a .f .g) .n1) (.n 20000) (.g 1 (.a (.a .b .g) .n1) (.n 100000)))) rfl (ε γ) v))),o.w,⟨fun _=>κ,fun _=>rfl⟩,fun _ h=> ?_,fun _ _ h=> ?_⟩
    ·have F:=h.resolve_left fun h=>h P;exact ak o.g.tel (ak F (o.n1 (aI F)))
    ·refine ak o.g.tel ?_;exact ak h (ak (aJ rfl) (t4 o.g.N))
   ·rw[show(af&&a.c==0)=ai from c5.mpr P] at L;exact q x.1 x.2 af L ⟨o.I,f.trans o.ex,Z,μ,o.w,⟨fun _=>κ,fun _=>rfl⟩,fun _ h=>o.n1 h,fun _ h=>aR h P⟩
end
theorem Aj (h:cg R s a) (b:cq R j u):s≠j:=fun e=>by
 refine cE h.hd fun c x d f _=>cE b.head fun C X k g _=> ?_;have E:=aS kW (d.symm.trans (e▸k));have E:c=C:=E;subst E;rcases f with rfl|rfl<;>exact absurd g (by decide)
theorem Kl {m:bh} (I:aW R) (h:cg R s a) (b:cq R j u):aE 6 4921 [.l (an 2),.l (ag s),.l (ag j)] (m.st R) (aA ai) [] (m.st R):=cE h.hd fun c x d f g=>cE b.head fun C X k i l=>(nK (Bt (fun e=>Aj h b (dh e)) d g k (.a l) (av rfl) ((MX (h.far I).1 (mJ (b.far I)) d k f i).up (aY rfl)))).up (aY rfl)
theorem F5 {m m2:bh} (p:gR R t O) (h:aE (k+1) 256 [.l (an 2),.l (ag s),.l (.j (O.map ag))] (m.st R) d [] (m2.st r)):
  aE (k+2) 7280 [.l (an 5),.l (an 2),.l (ag s),.l (ag t)] (m.st R) d [] (m2.st r):=zo.of _ _ fun n a=>by
 have b:aZ n 165 [.l (an 0),.l (ag t)] (m.st R) (.j (O.map ag)) [] (m.st R):=jo p n (ao (b3 (cA _)) a);exact aw 0 [.call b,.call (h n a)]
structure Ta (m:bh) (R:List aj) (Pr:List (Nat×Nat)) (a:aK) (s:Nat) (O:List Nat) (isL:Nat→Bool) (A:Nat→aK) (c:Nat) (m2:bh) (b:List aj) (r:Bool):Prop where
 I:aW b
 x:bL R b
 z:b.length≤R.length+400000
 g:dV b Pr m m2 c
 w:d8 m2.tw
 iff:r=af↔(∃j∈O.filter isL,db a (A j))∨hh a ((O.filter isL).map A)
 n1:r=af→(∃j∈O.filter isL,db a (A j)∧((A j).c≠0∨s=j))→m2.N=m.N
 n2:r=af→(∃j∈O.filter isL,db a (A j))→¬(∃j∈O.filter isL,db a (A j)∧((A j).c≠0∨s=j))→m.tel=af→m.N<m2.N
 n3:r=af→¬(∃j∈O.filter isL,db a (A j))→a.c≠0→m2.N=m.N
 n4:r=af→¬(∃j∈O.filter isL,db a (A j))→a.c=0→m.tel=af→m.N<m2.N
section
variable{m m2 m4:bh}
theorem Jf (p:gR R t O) (h:O.contains s=af):aE 2 220 [.l (an 2),.l (ag s),.l (ag t)] (m.st R) (aA af) [] (m.st R):=zo.of _ _ fun n a=>by
 have c:aZ n 165 [.l (an 0),.l (ag t)] (m.st R) (.j (O.map ag)) [] (m.st R):=jo p n a;have q:=pZ (i:=s) (O:=O);rw[h] at q;exact aw 0 [.call c,.has q]
theorem J9 (b:1≤k) (p:gR R t O) (h:O.contains s=ai) (c:aE k 218 [.l (an 2),.l (ag s),.l (.j (O.map ag))] (m.st R) (aA af) [] (m2.st r)):aE (k+1) 220 [.l (an 2),.l (ag s),.l (ag t)] (m.st R) (aA af) [] (m2.st r):=zo.of _ _ fun n a=>by
 have C:aZ n 165 [.l (an 0),.l (ag t)] (m.st R) (.j (O.map ag)) [] (m.st R):=jo p n (ao b a);have q:=pZ (i:=s) (O:=O);rw[h] at q;exact aw 0 [.call C,.has q,.call (c n a)]
theorem F0 (d:1≤k) (p:gR R t O) (h:O.contains s=ai) (c:aE k 218 [.l (an 2),.l (ag s),.l (.j (O.map ag))] (m.st R) (aA ai) [] (m2.st b)) (w:b[s]? =ac (.j [ae 12,.j (bf E),ro]))
  (C:aE k 199 [.l (an 2),.l (ae 12),.l (ag s),.l (ag t)] (m2.st b) (aA r) [] (m4.st e)):aE (k+1) 220 [.l (an 2),.l (ag s),.l (ag t)] (m.st R) (aA r) [] (m4.st e):=zo.of _ _ fun n a=>by
 have f:aZ n 165 [.l (an 0),.l (ag t)] (m.st R) (.j (O.map ag)) [] (m.st R):=jo p n (ao d a);have q:=pZ (i:=s) (O:=O);rw[h] at q;exact aw 462848 [.call f,.has q,.call (c n a),.row w,.call (C n a)]
end
section
theorem Ox (I:aW R) (b:sr R Pr a E (O.filter isL) A c m) (w:R[s]? =ac (.j [ae 12,.j (bf E),ag a.c])) (x:R[t]? =ac (.j [ae 6,.j (O.map ag)])) (μ:t≠2) (ν:2≤O.length) (F:mA R O isL A) (α:O.length≤100) (ξ:R.length≤100000)
  (τ:∀j∈O.filter isL,a.W*(A j).els.length+2≤c0) (ο:m.a+c0*O.length≤20000) (υ:cw a ((O.filter isL).map A)<26→m.a+c0*O.length+c*(O.filter isL).length*cw a ((O.filter isL).map A)+1≤20000)
  (β:m.N≤30000) (φ:∀j∈O,(s,j)∉m.tr∧((s,j),af)∉m.K) (e:m.tr≠[])
  {G:Prop} (q:∀m2 W r,aE 50 220 [.l (an 2),.l (ag s),.l (ag t)] (m.st R) (aA r) [] (m2.st W)→Ta m R Pr a s O isL A (c0*O.length+(c*(O.filter isL).length*cw a ((O.filter isL).map A)+1)) m2 W r→G):G:=by
 have L:cg R s a:=.d b.q w b.hE b.r;have π:=b.hE.len▸b.l;have γ:gR R t O:=⟨μ,aI ⟨x,ν⟩⟩;induction y:O.contains s with
 |true=>
  have δ:=ee.mp y;have ρ:=gl fun h=>((F s δ).2 (nV.mpr h)).elim fun u ε=>Aj L ε rfl;have χ:=((F s δ).1 ρ).1.uniq I L;have Q:=c_.mpr ⟨δ,ρ⟩;have X:db a (A s):=χ▸ .f;have d:∃j∈O.filter isL,db a (A j):=bd s Q X;exact q m R af ((Jf γ y).up (aY rfl)) ⟨I,.f,bu _ _,(dV.f b.ok).le (cA _),b.g,⟨fun _=>av d,fun _=>rfl⟩,fun _ _=>rfl,fun _ _ h=>aR (gX s Q X (aI rfl)) h,fun _ h=>aR d h,fun _ h=>aR d h⟩
 |false=>
  refine Co (s:=s) (k:=26) (z:=101) (P:=fun j=>isL j=af∧db a (A j)) (q:=fun j=>(A j).c≠0∨s=j) I b.ok b.g (av rfl) (av e) (aY rfl) (fun i ζ ψ η d S f a₈ q=> ?_)
   ο (b6 (.c 1 (.a .b .f) (.n 20000) (.c 1 .g (.n 30000) (.g 1 (.a .g .f) (.n 90000)))) rfl ο β) fun m2 W r C n=> ?_
  ·induction U:isL i with
   |false=>
    exact((F i ζ).2 U).elim fun u ε=>q ψ η ai ((Kl f.I (L.mono f.x) (ε.mono f.x)).up (aY rfl)) ⟨f.I,.f,bu _ _,(dV.f f.g.ok).le (cA _),f.w,⟨(fun h=>hU h),fun h=>aR (U.symm.trans h.1) cp⟩,fun _=>⟨rfl,rfl⟩,fun _=>rfl,fun _ _ _ h=>hU h⟩
   |true=>
    refine((F i ζ).1 U).elim fun σ Z=> ?_;have ω:=τ i (c_.mpr ⟨ζ,U⟩);have a₉:=fh c0 S;have b₀:=f.g.l;have b₁:=f.N;have a₀:=f.z
    exact vg f.I f.g.ok f.w (L.mono f.x) (σ.mono f.x) π Z (b8 (.c 101 .b (.n 100) (.c 1 .f (.n 100000) (.c 101 (.a .g .n1) .b (.c 1 .j (.a .f (.m 101 .g)) (.g 1 .j (.n 800000)))))) rfl α ξ S a₀) (fun p a₁=>((b.hPr p a₁).1).elim fun l X=>⟨l,X.mono f.x⟩) (fun a₂=>(b.hPr _ a₂).elim fun _ a₃=>a₃.elim fun q y=>(σ.mono f.x).not6 (f.x.at y)) (by lia) (by lia) (f.g.dp▸b.d) (av (f.t▸e))
     fun a₄ a₅ r a₆ B=>q a₄ a₅ r a₆ ⟨B.I,B.x,ao B.z (cj (b3 (dd π Z)) _),B.g.le ω,B.w,B.iff.trans ⟨fun h=>⟨U,h⟩,fun h=>h.2⟩,B.n0,B.n1,B.n2⟩
  ·have S:(∃j∈O,isL j=af∧db a (A j))↔∃j∈O.filter isL,db a (A j):=⟨fun z=>eB z fun j g v V=>bd j (c_.mpr ⟨g,v⟩) V,fun z=>ay z fun j g v=>gX j ((c_.mp g).1) ((c_.mp g).2) v⟩;have θ:=ao n.z (cj (fh 101 α) _);induction r with
   |true=>
    have D:=S.mp (n.iff.mp rfl)
    exact q m2 W af ((J9 (aY rfl) γ y C).up (aY rfl)) ⟨n.I,n.x,ao θ (cj (aY rfl) _),n.g.le (bu _ _),n.w,⟨fun _=>av D,fun _=>rfl⟩,fun _ z=>eB z fun i g v V=>n.n1 (av ⟨i,(c_.mp g).1,⟨(c_.mp g).2,v⟩,V⟩),
     fun _ _ h x=>n.n2 (fun z=>eB z fun i g v V=>h ⟨i,c_.mpr ⟨g,v.1⟩,v.2,V⟩) x φ rfl,fun _ h=>aR D h,fun _ h=>aR D h⟩
   |false=>
    have ι:¬∃j∈O.filter isL,db a (A j):=fun h=>nomatch n.iff.mpr (S.mpr h);refine(n.n0 rfl).elim fun N T=> ?_
    refine AO n.I ⟨n.g.ok,n.w,b.q,b.hE.mono n.x,b.l,b.r,b.h3,fun j Q=>⟨(b.hA j Q).1.mono n.x,(b.hA j Q).2⟩,b.o,b.hPr.mono n.x,b.hc,n.g.dp▸b.d,av (T▸e),ao θ (aD (dc ξ _) rfl)⟩
     (n.x.at w) (av rfl) (F.mono n.x) α (fun h=>by have:=υ h;exact b8 (.c 1 .b (.a .f .g) (.c 1 (.a (.a (.a .f .g) .j) .n1) (.n 20000) (.g 1 (.a (.a .b .j) .n1) (.n 20000)))) rfl n.g.l this) (fun _=>N▸aD β rfl) (N▸aD β rfl) fun m4 η r a₇ o=> ?_
    refine q m4 η r ((F0 (aY rfl) γ y (C.up (aY rfl)) (n.x.at w) (Qn (F5 ⟨μ,aI ⟨n.x.at x,ν⟩⟩ a₇))).up (aY rfl)) ⟨o.I,n.x.trans o.x,ao o.z (ao (dc θ _) (ao (a9 (ev ..)) (cj (aY rfl) _))),n.g.trans o.g,o.w,
     o.iff.trans ⟨aI,fun h=>h.resolve_left ι⟩,fun _ z=>eB z fun i g v _=>aR (bd i g v) ι,fun _ h=>aR h ι,fun h _ κ=>(o.n1 h (av κ)).trans N,fun h _ κ x=>N▸o.n2 h κ (n.g.tel.trans x)⟩
end
theorem MW:∀j∈[0,1,2,3,10,13],¬kW dU[j]? =6:=by
 have:[0,1,2,3,10,13].all (fun j=> !aM (kW dU[j]? =6))=true:=by kernel_rfl
 exact fun j h=>by simpa using cH.mp this j h
theorem Cp (I:aW R) (h:R[t]? =ac (.j [ae 6,p])):gj t:=
 have f {j:Nat} (a:j∈[0,1,2,3,10,13]) (b:j<16):¬(t:Int)=(j:Int):=fun e=>by
  rw[dh e,I.at b] at h;exact MW j a (by refine ak h ?_;rfl)
 ⟨f (by decide) (aY rfl),f (by decide) (aY rfl),f (by decide) (aY rfl),f (by decide) (aY rfl),f (by decide) (aY rfl),f (by decide) (aY rfl)⟩
theorem Nn:gf a [b]=[]:=by
 unfold gf;rw[List.filter_eq_nil_iff];refine fun p _ h=>dM (nv.mp h) fun _ z _=>z.elim fun x Z=>Z.elim fun e f=>f.elim fun y g=>g.elim fun i j=>j.elim fun k l=>l.elim fun q m=>m.elim fun c n=>n.elim fun d o=> ?_;rw[bW.mp e] at c;rw[bW.mp i,c] at d;exact o (bD d)
theorem LY:¬hh a [b]:=fun h=>by
 have:=h.1.1;unfold cw at this;rw[Nn] at this;exact aR this (gI 1)
def AS (R:List aj) (t:Nat) (O:List Nat) (isL:Nat→Bool):Prop:=(O=[t]∧isL t=af)∨(R[t]? =ac (.j [ae 6,.j (O.map ag)])∧t≠2∧2≤O.length∧∃j∈O,isL j=af)
def mr (a:aK) (O:List Nat) (isL:Nat→Bool) (A:Nat→aK):Prop:=∃j∈O.filter isL,db a (A j)
def qv (a:aK) (s:Nat) (O:List Nat) (isL:Nat→Bool) (A:Nat→aK):Prop:=∃j∈O.filter isL,db a (A j)∧((A j).c≠0∨s=j)
noncomputable def fc:bh:=⟨[],[],0,0,0,af,ah⟩
theorem fc.ok:eC R [] fc:=⟨h7,(fun _ h=>nomatch h),(fun _ h=>nomatch h),(fun _ h=>nomatch h),aY rfl,aY rfl,aY rfl⟩
structure G3 (R:List aj) (a:aK) (s:Nat) (O:List Nat) (isL:Nat→Bool) (A:Nat→aK) (c:Nat) (m:bh) (b:List aj) (r:Bool):Prop where
 I:aW b
 x:bL R b
 z:b.length≤R.length+400000
 g:dV b [] fc m c
 w:d8 m.tw
 iff:r=af↔mr a O isL A∨hh a ((O.filter isL).map A)
 no:¬(¬qv a s O isL A∧(mr a O isL A∨(hh a ((O.filter isL).map A)∧a.c=0)))→m.N=0
 yes:¬qv a s O isL A∧(mr a O isL A∨(hh a ((O.filter isL).map A)∧a.c=0))→m.N≠0
section
theorem NL (I:aW R) (L:cg R s a) (k:a.els.length≤50) (x:isL t=af) (y:cg R t (A t)) (Z:(A t).els.length≤50) (C:R.length≤100000) (f:a.W*(A t).els.length+2≤c0) (o:c0≤19999) (z:Nat)
  {G:Prop} (q:∀m u r,aE 26 4921 [.l (an 2),.l (ag s),.l (ag t)] (fc.st R) (aA r) [] (m.st u)→G3 R a s [t] isL A (c0+z) m u r→G):G:=by
 have E:[t].filter isL=[t]:=by rw[ri,aJ x];rfl
 have n:¬hh a (([t].filter isL).map A):=by rw[E];exact LY
 have d:mr a [t] isL A↔db a (A t):=by unfold mr;exact ak E (⟨fun z=>ay z fun j g h=>bW.mp g▸h,fun h=>bd t (cU _) h⟩)
 have c:qv a s [t] isL A↔db a (A t)∧((A t).c≠0∨s=t):=by unfold qv;exact ak E (⟨fun z=>ay z fun j g h=>bW.mp g▸h,fun h=>bd t (cU _) h⟩)
 refine vg I fc.ok trivial L y k Z (aD C rfl) (fun p D=>nomatch D) (fun h=>nomatch h) (cD (.c 1 (.a .b .n2) .f (.c 1 .f (.n 19999) (.g 1 (.a (.a .n0 .b) .n1) (.n 20000)))) rfl f o) (cD (.c 1 (.a .b .n2) .f (.c 1 .f (.n 19999) (.g 1 (.a (.a .n0 .b) .n1) (.n 90000)))) rfl f o) (aY rfl) (aI rfl) fun M F r B b=>q M F r B ⟨b.I,b.x,ao b.z (cj (aD (b3 (dd k Z)) rfl) _),b.g.le (ao f (bu _ _)),b.w, ?_,fun h=> ?_,fun z=>z.elim fun v w=> ?_⟩
 ·rw[b.iff,d];exact⟨av,fun h=>h.resolve_right n⟩
 ·rw[c,d] at h;by_cases l:db a (A t)
  ·exact b.n1 (av (gl fun i=>h ⟨fun h=>i h.2,av l⟩))
  ·exact(b.n0 (nV.mpr fun e=>l (b.iff.mp e))).1
 ·rw[c] at v;rw[d] at w;have l:=w.elim id fun h=>aR h.1 n;exact lP (b.n2 (fun i=>v ⟨l,i⟩) rfl ⟨(fun h=>nomatch h),(fun h=>nomatch h)⟩ (b.iff.mpr l))
theorem E3 (I:aW R) (o:a.Ok) (w:R[s]? =ac (.j [ae 12,.j (bf E),ag a.c])) (Q:b5 R E a.els) (Z:E.length≤50) (γ:0<a.fr) (ζ:a.hs.length≤3) (v:AS R t O isL) (D:mA R O isL A) (δ:O.length≤100) (S:R.length≤100000)
  (ε:∀j∈O.filter isL,a.W*(A j).els.length+2≤c0) (T:c0*O.length+1≤20000)
  (V:∀f,iS a ((O.filter isL).map A) f→∀j∈O.filter isL,(a.pick f).W*(A j).els.length+2≤c) (η:cw a ((O.filter isL).map A)<26→c0*O.length+c*(O.filter isL).length*cw a ((O.filter isL).map A)+2≤20000)
  {G:Prop} (q:∀M F r,aE 54 4921 [.l (an 2),.l (ag s),.l (ag t)] (fc.st R) (aA r) [] (M.st F)→G3 R a s O isL A (c0*O.length+(c*(O.filter isL).length*cw a ((O.filter isL).map A)+2)) M F r→G):G:=by
 have l:cg R s a:=.d o w Q γ;rcases v with⟨θ,L⟩|⟨v,ι,κ,j,y,μ⟩
 ·subst θ;refine((D t (.head _)).1 L).elim fun ν ξ=> ?_;have ο:c0*[t].length=c0:=lR _;rw[ο] at T q;exact NL I l (Q.len▸Z) L ν ξ S (ε t (c_.mpr ⟨cU _,L⟩)) (q9 T) _ fun M F r h=>q M F r (h.up (aY rfl))
 ·have n:∀j∈O,j≠t:=fun j y e=>by
   induction b:isL j with
   |true=>exact((D j y).1 b).1.not6 (e▸v)
   |false=>
    refine((D j y).2 b).elim fun u π=>cE π.head fun C x k ρ _=> ?_;have k:=e▸k;have α:=aS kW (k.symm.trans v);have α:C=6:=α;subst α;exact aR ρ (by decide)
  have σ:sV R [(s,t)]:=fun p τ=>bW.mp τ▸⟨⟨a,l⟩,_,v⟩;have υ:(O.filter isL).length≤100:=ao (hY _ _) δ
  refine Ox (Pr:=[(s,t)]) I ⟨w1 fc.ok rfl (fun h=>nomatch h) (by decide),trivial,o,Q,Z,γ,ζ,fun j y=>(D j (c_.mp y).1).1 (c_.mp y).2,υ,σ,V,(show 1<58 by decide),av (fun h=>nomatch h),aD S rfl⟩ w v ι κ D δ S ε
   (dN (.c 1 (.a .b .n1) (.n 20000) (.g 1 (.a (.a .n0 .n1) .b) (.n 20000))) rfl T) (fun h=>by have:=η h;exact cD (.c 1 (.a (.a .b .f) .n2) (.n 20000) (.g 1 (.a (.a (.a (.a .n0 .n1) .b) .f) .n1) (.n 20000))) rfl this) (cA _) (fun j y=>⟨fun h=>n j y (Sn (bW.mp h)).2,fun h=>nomatch h⟩) (fun h=>nomatch h) fun M F r φ U=> ?_
  refine(vH fc.ok U.x rfl (fun h=>nomatch h) (aY rfl) (by decide) (aY rfl) (aI rfl) (B4 w (by decide) v φ) U.g (aI (aI ⟨⟨a,l.mono U.x⟩,O,j,A j,U.x.at v,y,((D j y).1 μ).1.mono U.x⟩))).elim fun χ ψ=>i6 ψ fun ω g W N a₀=>cE l.hd fun a₂ X P B k=>q χ F r ((nK (v1 (fun e=>l.not6 (dh e▸v)) P k v (.un _) ((xP (m:=fc) (l.far I).1 (Cp I v) P v (aI ⟨by rcases B with B|B<;>simp[B],rfl⟩)).up (aY rfl)) ω (aY rfl))).up (aY rfl)) ⟨U.I,U.x,U.z,g.le (bv _),W▸U.w,U.iff,fun h=> ?_,fun z=>z.elim fun P B=> ?_⟩
  ·induction r with
   |false=>exact(a₀ rfl).1
   |true=>
    rw[N rfl];by_cases d:mr a O isL A
    ·exact U.n1 rfl (gl fun V=>h ⟨V,av d⟩)
    ·exact U.n3 rfl d fun a₁=>h ⟨fun z=>eB z fun i P B _=>d ⟨i,P,B⟩,aI ⟨(U.iff.mp rfl).resolve_left d,a₁⟩⟩
  ·have β:=U.iff.mpr (B.imp id fun h=>h.1);rw[N β];by_cases d:mr a O isL A
   ·exact lP (U.n2 β d P rfl)
   ·exact lP (U.n4 β d (B.resolve_left d).2 rfl)
end
noncomputable def qE (a:Nat) (ns:List Int):b0:=.c [ag a,.c (ns.map ae)]
def gF (c:b0):Prop:=∃a n,n.length≤40∧c=qE a n
theorem BY (x:Int) (b:0<n):∃v,eJ .Mod (ae x) (ag n)=ac (ag v)∧v<n:=by
 have h:(0:Int)<n:=g5.mpr b;have a:=Int.fmod_nonneg_of_pos x h;refine bd ((uw x n).toNat) (?_) ((yj a).mpr (Int.fmod_lt_of_pos x h));show(if(0:Int)<(n:Int) then ac (ae (uw x n)) else ah)=ac (ae ((uw x n).toNat:Nat))
 rw[aJ h,DS a]
theorem fG (f:gF c) (d:0<n) (Y:ar) {G:Prop} (q:∀v C,aE 1 277 [.a c,.l (ag n)] Y (ag v) [C] Y→v<n→gF C→G):G:=by
 refine bK f fun a N l e=> ?_;subst e;have L:N.length≤16777216:=aD l rfl;by_cases h:a<N.length
 ·refine ay (BY N[a] d) fun v b B=>q v (qE (a+1) N) (zo.of _ _ fun k i=> ?_) B ⟨a+1,N,l,rfl⟩;have g:(N.map ae)[a]? =ac (ae N[a]):=by rw[dX,cS h];rfl
  exact aw 260 [.p (ds:=N.map ae) (aB _) L,.A (cu h),.row g,.w b]
 ·refine ay (BY ((a:Int)*7+2) d) fun v b B=>q v (qE (a+1) N) (zo.of _ _ fun k i=> ?_) B ⟨a+1,N,l,rfl⟩;exact aw 516 [.p (ds:=N.map ae) (aB _) L,.A (cP h),.w b]
noncomputable def a5 (us:List Nat):aj:=.c (us.map ag)
theorem Ji:∀us:List Nat,(us.map ag).any (fun x=>aj.beq x (ae i))=us.any fun u=>(u:Int)==i:=fun us=>us.rec rfl fun u us I=>aS (((u:Int)==i)||·) (I)
theorem wN {us:List Nat}:cX (ae i) (.c (us.map ag))=ac (us.any fun u=>(u:Int)==i):=by
 have h:(us.map ag).all (aj.plain 8)=true:=by rw[pD,cH];exact fun _ _=>rfl
 show(if(aj.plain 8 (ae i)&&(us.map ag).all (aj.plain 8))=af then _ else _)=_
 rw[h,Ji];rfl
theorem rX {i:Nat} {us:List Nat}:(us.any fun u=>(u:Int)==(i:Int))=us.contains i:=by
 rw[ji,t6,ee];exact⟨fun z=>ay z fun u a b=>dh (dL.mp b)▸a,fun h=>bd i h (iX _)⟩
noncomputable def se:Nat→Int
 |0=>6
 |1=>6
 |2=>7
 |_=> -1
theorem Ip (j:Nat):(us.any fun u=>(u:Int)==se j)=ci us j:=by
 have a:(us.any fun u=>(u:Int)==6)=us.contains 6:=rX;have b:(us.any fun u=>(u:Int)==7)=us.contains 7:=rX
 match j with
 |0=>show(us.any fun u=>(u:Int)==6)=_;rw[a];simp[ci]
 |1=>show(us.any fun u=>(u:Int)==6)=_;rw[a];simp[ci]
 |2=>show(us.any fun u=>(u:Int)==7)=_;rw[b];simp[ci]
 |j+3=>
  have m:(us.any fun u=>(u:Int)==(-1))=false:=R0.mpr fun u _ h=>nomatch(dL.mp h:(u:Int)= -1);show(us.any fun u=>(u:Int)==(-1))=_;rw[m];simp[ci]
theorem L2 (h:∀u∈us,u<8):(cv 8).filter (fun u=>us.contains u&& !ci us u)=cM us:=by
 unfold cM;rewrite [show cv 9=cv 8++[8] from rfl,pv,ri,nV.mpr fun m=>aR (h 8 (ee.mp m)) (gI 8)];exact(c8 _).symm
theorem wU:(cM us).length≤us.length:=
 List.Nodup.length_le_of_subset (D5.sublist mX) fun u h=>(fp.mp h).2.1
theorem sk {Y:ar} (h:∀u∈us,u<8):aE 1 278 [.l (a5 us)] Y (a5 (cM us)) [] Y:=zo.of _ _ fun n m=>by
 refine ak (cB (L2 h)) ?_;obtain⟨x,_,l⟩:=hm (n:=n) (g:=278) (b:=ah) [1] ag (cv 8) (fun d (_:Unit)=>[(76,.l (a5 us)),(13,bE (.c ((d.filter fun u=>us.contains u&& !ci us u).map ag)))]) (fun _ _=>Y) (fun _ _=>True) () trivial rfl fun D j r x e _=>⟨(),a',trivial,av rfl,by
  have f:eA (.c [ae 6,ae 6,ae 7,ae (-1),ae (-1),ae (-1),ae (-1),ae (-1)]) (ag j)=ac (ae (se j)):=by
   have:∀j∈cv 8,eA (.c [ae 6,ae 6,ae 7,ae (-1),ae (-1),ae (-1),ae (-1),ae (-1)]) (ag j)=ac (ae (se j)):=by
    rw[show cv 8=[0,1,2,3,4,5,6,7] from rfl];simp only[pp,kh,false_implies,implies_true,and_true];exact P3 rfl rfl rfl rfl rfl rfl rfl rfl
   exact this j (eO e)
  have G:cX (ag j) (.c (us.map ag))=ac (us.contains j):=by rw[←rX];exact wN
  have c:cX (ae (se j)) (.c (us.map ag))=ac (ci us j):=by rw[←Ip];exact wN
  have E:D.length≤8:=by rw[←gm (n:=8),e,bi];exact bu _ _
  have i:fJ 3 (.c ((D.filter fun u=>us.contains u&& !ci us u).map ag)) [ag j]=ac (a4,.c ((D.filter fun u=>us.contains u&& !ci us u).map ag++[ag j])):=
   aJ (by rw[aB];exact ao (hY _ _) (aD E rfl))
  rw[pv,cd,ri];generalize(D.filter fun u=>us.contains u&& !ci us u).map ag=X at i;induction a:us.contains j with
  |false=>
   have G:=a▸G;refine ak (show(X++(if(ai&& !ci us j)=af then j::[].filter (fun u=>us.contains u&& !ci us u) else[].filter fun u=>us.contains u&& !ci us u).map ag)=X from c8 X) ?_
   exact bq 0 [.get f,.has G]
  |true=>
   rw[a] at G;induction k:ci us j with
   |true=>
    rw[k] at c;refine ak (show(X++(if(af&& !af)=af then j::[].filter (fun u=>us.contains u&& !ci us u) else[].filter fun u=>us.contains u&& !ci us u).map ag)=X from c8 X) ?_
    exact bq 0 [.get f,.has G,.has c]
   |false=>
    rw[k] at c;exact bq 0 [.get f,.has G,.has c,.u i],rfl⟩
 exact aw 1 [.sub l]
structure oZ (k:List Nat):Prop where
 nk:gi k
 a:8∉k
 l:k.length≤3
theorem tJ (o:gF c) (Y:ar) {G:Prop} (q:∀k C,aE 2 279 [.a c] Y (a5 k) [C] Y→oZ k→gF C→G):G:=by
 refine fG (n:=3) o (by decide) Y fun v p t s D=> ?_
 refine qJ (g:=279) [0] 0 57 ag (cv (1+v)) (fun x:b0×List Nat=>x.2.map ag) (fun x=>[(74,.a x.1)]) (fun _=>Y) (fun d x=>gF x.1∧(∀u∈x.2,u<8)∧x.2.length=d.length) (p,[]) (fe D (fun _ h=>(by cases h)) rfl) rfl
  (fun F j r x e a L q=>fG a.1 (by decide) Y fun w y T z A=>q (y,x.2++[w]) [ag w] (fe A (ja a.2.1 z) (by rw[bi,a.2.2,bi];rfl)) cd fun n b=>by
   exact cZ 0 [.call (T n b)]) fun x a w=> ?_
 refine dM a fun B f l=> ?_;have l:=gm▸l;have m:=ao (a9 (f_ 1 v)) s;have E:∃u∈x.2,u<9:=⟨x.2[0]'(l▸f_ 1 v▸Nat.zero_lt_succ v),k1 _,px (f _ (k1 _))⟩;rw[←jN] at w;refine q (cM x.2) x.1 (zo.of _ _ fun n b=> ?_) ⟨lr E,fun h=>aR (f 8 (fp.mp h).2.1) (gI 8),ao wU (l▸m)⟩ B;have i:1+v≤100000:=aD m rfl;have I:(f4 0 (jL (1+v))).length≤b4:=by rw[jN,aB,gm];exact aD i rfl
 exact aw 16 [.call (t n b),.le i,.le I,.sub (w n b),.call ((sk (Y:=Y) f) n b)]
theorem sD:∀{l:List d},(∀x∈l,f x≤c)→(l.map f).sum≤l.length*c:=by
 intro l;induction l with
 |nil=>
  exact fun _=>cA _
 |cons a l i=>
  intro h;rw[eE,n8,mY,SV,f_];exact dd (i fun x b=>h x (e9 _ b)) (h a (cU _))
noncomputable def dZ (k:List (List Nat)):aj:=.c (k.map a5)
noncomputable def bM (a:aK):aj:=.j [dZ a.hs,dZ a.os,dZ a.rs,dZ a.ts,ag a.c]
structure fg (a:aK):Prop where
 ok:a.Ok
 d:1≤a.hs.length
 h3:a.hs.length≤3
 c:a.os.length≤1
 t1:a.ts.length≤1
theorem tt {a:aK}:a.W=(a.hs.map fun k=>k.length+1).sum+(a.os.map fun k=>(cM (k++[8])).length+1).sum+(a.rs.map fun k=>k.length+1).sum+(a.ts.map fun k=>k.length+1).sum:=by
 unfold aK.W aK.els fF;rw[cd,cd,cd,cd,cd,cd,x_,x_,x_];simp only[eg];rfl
theorem E5 {a:aK} (h:fg a) (o:a.os=[]∨a.rs=[]) (l:∀k∈a.hs++a.os++a.rs++a.ts,k.length≤3):a.W≤20:=by
 have m {k:List Nat} (h:k∈a.hs∨k∈a.os∨k∈a.rs∨k∈a.ts):k.length≤3:=l k (by rw[ef,ef];exact h.elim (cG _) fun h=>eD _ (h.elim (cG _) fun h=>eD _ (dD.mpr h)));have s:=sD fun k b=>b3 (m (av b));have S:=sD (f:=fun k:List Nat=>(cM (k++[8])).length+1) fun k b=>b3 (ao wU (by refine ak bi ?_;exact b3 (m (aI (av b)))));have c:=sD fun k b=>b3 (m (aI (aI (av b))));have d:=sD fun k b=>b3 (m (aI (aI (aI b))));have e:=h.h3;have j:=h.c;have g:=h.ok.rs;exact ak tt (uz (h.ok.alt.imp fs.mpr fs.mpr) (fun y=>tf (.c 1 .b (.w .f 4) (.c 1 .g (.w .j 5) (.c 1 .l (.w .o 4) (.c 1 .p (.w .q 4) (.c 4 .f (.n 3) (.c 4 .q .n1 (.c 4 .o .n1 (.c 5 .j .n0 (.g 1 (.a (.a (.a .b .g) .l) .p) (.n 20)))))))))) rfl s S c d e h.t1 g (a9 y)) fun y=>uz (o.imp fs.mpr fs.mpr) (fun i=>tf (.c 1 .b (.w .f 4) (.c 1 .g (.w .j 5) (.c 1 .l (.w .o 4) (.c 1 .p (.w .q 4) (.c 4 .f (.n 3) (.c 4 .j .n1 (.c 4 .o .n1 (.c 4 .q .n0 (.c 1 .j .n0 (.g 1 (.a (.a (.a .b .g) .l) .p) (.n 20))))))))))) rfl s S c d e j g (a9 y) (a9 i)) fun i=>tf (.c 1 .b (.w .f 4) (.c 1 .g (.w .j 5) (.c 1 .l (.w .o 4) (.c 1 .p (.w .q 4) (.c 4 .f (.n 3) (.c 5 .j .n1 (.c 3 .o .n1 (.c 4 .q .n0 (.c 1 .o .n0 (.g 1 (.a (.a (.a .b .g) .l) .p) (.n 20))))))))))) rfl s S c d e j g (a9 y) (a9 i))
theorem zl (h:0<b):eJ .Mod (ag a) (ag b)=ac (ag (a%b)):=by
 show(if(0:Int)<(b:Int) then ac (ae (uw a b)) else ah)=_
 rw[aJ (show(0:Int)<(b:Int) from g5.mpr h),←Int.ofNat_fmod]
theorem sm {os:List (List Nat)} (b:∀k∈s,oZ k) (c:1≤s.length) (d:s.length≤3) (h:∀k∈os++rs++ts,oZ k) (o:os.length≤1) (e:rs.length≤1) (t:ts.length≤1) (f:ts≠[]→rs≠[]) (g:os=[]∨ts=[]) (i:os=[]∨rs=[]) (j:r≤1):fg ⟨s,os,rs,ts,r⟩∧(⟨s,os,rs,ts,r⟩:aK).W≤20:=by
 have a:∀k∈s++os++rs++ts,oZ k:=fun k m=>by
  rw[ef,ef,←ef os] at m;exact(dD.mp m).elim (b k) (h k)
 have S:fg ⟨s,os,rs,ts,r⟩:=⟨⟨e,f,fun k m=>⟨(a k m).nk,(a k m).a⟩,j,g⟩,c,d,o,t⟩;exact⟨S,E5 S i fun k m=>(a k m).l⟩
theorem sg (h:x<3):eJ uv (ag x) (ae 2)=ac (ag (x/2)):=l7 (P:=fun x=>eJ uv (ag x) (ae 2)=ac (ag (x/2))) rfl rfl rfl h
theorem rQ (h:x<3):x/2≤1:=l7 (P:=fun x=>x/2≤1) (aY rfl) (aY rfl) (aY rfl) h
abbrev u9 (c:b0) (Y:ar) (w:Bool):Prop:=∀{G:Prop},(∀a C,aE 3 280 [.a c,.l (aA w)] Y (bM a) [C] Y→fg a→a.W≤20→gF C→G)→G
theorem AH (S:gF c) (Y:ar):u9 c Y false:=fun{G} q=>by
 refine fG (n:=3) S (aY rfl) Y fun v U T A V=> ?_
 refine qJ (g:=280) [1] 0 59 ag (cv (1+v)) (fun x:b0×List (List Nat)=>x.2.map a5) (fun x=>[(74,.a x.1),(79,.l (aA ai))]) (fun _=>Y) (fun d x=>gF x.1∧(∀k∈x.2,oZ k)∧x.2.length=d.length) (U,[]) ⟨V,(fun _ h=>(by cases h)),rfl⟩ rfl
  (fun θ j r x e E ι q=>tJ E.1 Y fun k X Z α P=>q (X,x.2++[k]) [a5 k] ⟨P,ja E.2.1 α,by rw[bi,E.2.2,bi];rfl⟩ cd fun n a=>by
   exact cZ 0 [.call (Z n a)]) fun x E C=> ?_
 refine dM E fun P u l=> ?_;have l:=gm▸l;rw[←jN] at C;have p:=ao (a9 (f_ 1 v)) A;have A:=l▸bu 1 v;have i:1+v≤100000:=aD p rfl;have I:(f4 0 (jL (1+v))).length≤b4:=by rw[jN,aB,gm];exact aD i rfl
 have p:=l▸p;have o {k:List Nat} (h:oZ k):∀β∈[k],oZ β:=tU.mpr h;refine fG (n:=6) P (aY rfl) Y fun w κ b _ Q=> ?_;induction W:(w==3) with
 |true=>
  cases dL.mp W;refine tJ Q Y fun k γ f F L=>fG (n:=3) L (aY rfl) Y fun y B t m D=>(sm (os:=[k]) (rs:=[]) u A p (o F) (bv 1) (cA 1) (cA 1) (fun h=>aR rfl h) (aI rfl) (aI rfl) (rQ m)).elim fun s z=>q _ B (zo.of _ _ fun n a=> ?_) s z D;have T:=T n (bl a rfl);have C:=C n a;have b:=b n (bl a rfl);have f:=f n a;have t:=t n (bl a rfl);exact aw 34603025 [.call T,.le i,.le I,.sub C,.call b,.call f,.call t,.w (sg m)]
 |false=>
  induction M:aM (3<w) with
  |true=>
   refine tJ Q Y fun k γ f F L=> ?_;induction N:(w==5) with
   |true=>
    refine tJ L Y fun μ B t δ D=>fG (n:=3) D (aY rfl) Y fun y ε ζ R η=>(sm (os:=[]) (rs:=[k]) u A p (pp.mpr ⟨F,o δ⟩) (cA 1) (bv 1) (bv 1) (fun _ h=>(by injection h)) (av rfl) (av rfl) (rQ R)).elim fun s z=>q _ ε (zo.of _ _ fun n a=> ?_) s z η;have T:=T n (bl a rfl);have C:=C n a;have b:=b n (bl a rfl);have f:=f n a;have t:=t n a;exact aw 17 [.call T,.le i,.le I,.sub C,.call b,.x W,.y M,.call f,.x N,.call t,.call (ζ n (bl a rfl)),.w (sg R)]
   |false=>
    refine fG (n:=3) L (aY rfl) Y fun y B t m D=>(sm (os:=[]) (rs:=[k]) u A p (o F) (cA 1) (bv 1) (cA 1) (fun h=>aR rfl h) (av rfl) (av rfl) (rQ m)).elim fun s z=>q _ B (zo.of _ _ fun n a=> ?_) s z D;have T:=T n (bl a rfl);have C:=C n a;have b:=b n (bl a rfl);have t:=t n (bl a rfl);exact aw 17 [.call T,.le i,.le I,.sub C,.call b,.x W,.y M,.call (f n a),.x N,.call t,.w (sg m)]
  |false=>
   have N:(w==5)=false:=c5.mpr fun e=>rl M (by rw[e];decide);refine fG (n:=3) Q (aY rfl) Y fun y B t m D=>(sm (os:=[]) (rs:=[]) (ts:=[]) u A p (fun _ h=>(by cases h)) (cA 1) (cA 1) (cA 1) (fun h=>aR rfl h) (av rfl) (av rfl) (rQ m)).elim fun s z=>q _ B (zo.of _ _ fun n a=> ?_) s z D;exact aw 17 [.call (T n (bl a rfl)),.le i,.le I,.sub (C n a),.call (b n (bl a rfl)),.x W,.y M,.x N,.call (t n (bl a rfl)),.w (sg m)]
theorem yN {P:Nat→Prop} (h:P 0) (a:P 1) (b:P 2) (c:P 3):∀{p},p<4→P p:=s8 (l7 h a b) c
noncomputable def jn:Nat→List Nat
 |0=>[5,5]
 |1=>[5,6]
 |2=>[3,3,3]
 |_=>[3,3,2]
noncomputable def im (w z:Nat):List Nat:=(cv z).map fun g=>(w+g)%6
theorem xq:∀u∈im w z,u<6:=fun u h=>ay (cr.mp h) fun g _ e=>e▸Nat.mod_lt _ (aY rfl)
theorem ND (hz:1≤z):gi (cM (im w z))∧8∉cM (im w z):=by
 have m:(w+0)%6∈im w z:=cr.mpr (bd 0 (hB.mpr hz) rfl);exact⟨lr (bd _ m (rt (xq _ m) (aY rfl))),fun h=>aR (xq 8 (fp.mp h).2.1) (by decide)⟩
theorem GI {g:b→Nat}:∀{l:List b},(∀x∈l,f x≤g x)→(l.map f).sum≤(l.map g).sum:=by
 intro l;induction l with
 |nil=>
  exact fun _=>bv _
 |cons a l i=>
  intro h;rw[eE,n8,eE,n8];exact dd (h a (cU _)) (i fun x c=>h x (e9 _ c))
theorem FP {c:b0} (p:gF c) (Y:ar):u9 c Y true:=fun{G} q=>by
 refine fG (n:=4) p (aY rfl) Y fun v α t j y=>fG (n:=6) y (by decide) Y fun w C T β A=>fG (n:=2) A (aY rfl) Y fun r B E F M=> ?_;have g:=yN (P:=fun v=>eA (.c [.c [ae 5,ae 5],.c [ae 5,ae 6],.c [ae 3,ae 3,ae 3],.c [ae 3,ae 3,ae 2]]) (ag v)=ac (.c ((jn v).map ag))) rfl rfl rfl rfl j;have⟨N,Q,S,m⟩:((jn v).map (·+1)).sum≤20∧1≤(jn v).length∧(jn v).length≤3∧∀s∈jn v,1≤s∧s≤6:=yN (P:=fun v=>((jn v).map (·+1)).sum≤20∧1≤(jn v).length∧(jn v).length≤3∧∀s∈jn v,1≤s∧s≤6) (by decide) (by decide) (by decide) (by decide) j;have U:fg ⟨(jn v).map fun z=>cM (im w z),[],[],[],r⟩:=⟨⟨cA _,fun h=>aR rfl h,fun k o=>by
  rw[c8,c8,c8] at o;refine ay (cr.mp o) fun z V e=> ?_;exact e▸ND (m z V).1,iW F,av rfl⟩,by rw[aB];exact Q,by rw[aB];exact S,cA _,cA _⟩
 have W:(⟨(jn v).map fun z=>cM (im w z),[],[],[],r⟩:aK).W≤20:=by
  rw[tt];rw[eg];exact ao (GI fun z _=>b3 (ao wU (a9 (by unfold im;rw[aB,gm])))) N
 refine q _ B (zo.of _ _ fun n f=> ?_) U W M;obtain⟨x,_,L⟩:=hm (n:=n) (g:=280) (b:=ah) [0,0,3] ag (jn v) (fun d (_:Unit)=>[(74,.a C),(79,.l (aA af)),(81,.l (ag v)),(84,.l (ag w)),(80,bE (.c ((d.map fun z=>cM (im w z)).map a5)))]) (fun _ _=>Y) (fun _ _=>True) () trivial rfl fun D z R x e _=>⟨(),a',trivial,av rfl,by
  have l:=fI (n:=n) (g:=280) [0,0,3,0] 0 54 ag (cv z) (fun g=>[ag ((w+g)%6)]) [(74,.a C),(79,.l (aA af)),(81,.l (ag v)),(84,.l (ag w)),(80,bE (.c ((D.map fun z=>cM (im w z)).map a5))),(85,.l (ag z))] Y fun g γ=>by
   exact cZ 1 [.w (zl (a:=w+g) (b:=6) (aY rfl))]
  rw[←kd,←jN,show(cv z).map (fun g=>ag ((w+g)%6))=(im w z).map ag by unfold im;rw[eg];rfl] at l;have i:z≤100000:=aD (m z (eO e)).2 rfl;have I:(f4 0 (jL z)).length≤b4:=by rw[jN,aB,gm];exact aD i rfl
  have X:fJ 3 (.c ((D.map fun z=>cM (im w z)).map a5)) [a5 (cM (im w z))]=ac (a4,.c (((D++[z]).map fun z=>cM (im w z)).map a5)):=by
   rw[cd,cd];exact aJ (by rw[aB,aB];exact aD (ao (by rw[e,bi];exact bu _ _) S) rfl)
  exact bq 0 [.le i,.le I,.sub l,.call (sk (Y:=Y) (us:=im w z) (fun u Z=>rt (xq u Z) (aY rfl)) n (bl f rfl)),.u X],rfl⟩
 exact aw 1 [.call (t n (bl f rfl)),.call (T n (bl f rfl)),.get g,.sub L,.call (E n (bl f rfl))]
noncomputable def bm (a:aK):List (List Nat):=a.hs++a.os++a.rs++a.ts
theorem gT:(bm a).length=a.hs.length+a.os.length+a.rs.length+a.ts.length:=by unfold bm;rw[bi,bi,bi]
theorem fg.small (h:fg a):(bm a).length≤5∧1≤(bm a).length:=by
 have f:=h.d;have g:=h.h3;have i:=h.c;have j:=h.t1;have k:=h.ok.rs;have e:=h.ok.alt.imp fs.mpr fs.mpr;refine ak gT ?_;lia
theorem uZ (h:x.length+y.length≤1000000):eJ b9 (dZ x) (dZ y)=ac (dZ (x++y)):=by
 unfold dZ;refine ak cd ?_;exact aJ (by rw[aB,aB];exact h)
theorem sH (l:(bm a).length≤100):aE 1 281 [.l (bM a)] Y (dZ (bm a)) [] Y:=zo.of _ _ fun n c=>by
 have h:a.hs.length+a.os.length+a.rs.length+a.ts.length≤1000000:=gT▸aD l rfl;have b:=ao (bu _ _) h;exact aw 274 [.w (uZ (ao (bu _ _) b)),.w (uZ (y:=a.rs) (by rw[bi];exact b)),.w (uZ (x:=a.hs++a.os++a.rs) (y:=a.ts) (by rw[bi,bi];exact h))]
theorem kK (h:l.length≤1000000):fJ 3 (.c l) [x]=ac (a4,.c (l++[x])):=aJ h
noncomputable def fb (p:Nat) (k:List Nat) (a:Nat) (g:List (List Nat)):List (List Nat):=g.zipIdx.map fun x=>if a+x.2=p then k else x.1
theorem kH:(fb p k a g).length=g.length:=by unfold fb;rw[aB,pu]
theorem Mf:∀x∈fb p k a g,x∈g∨x=k:=fun x h=>by
 refine ay (cr.mp h) fun y b e=> ?_;rw[←e];split
 ·exact aI rfl
 ·exact av (eR (nH b))
noncomputable def iM (p:Nat) (k:List Nat) (a:aK):aK:=⟨fb p k 0 a.hs,fb p k a.hs.length a.os,fb p k (a.hs.length+a.os.length) a.rs,fb p k (a.hs.length+a.os.length+a.rs.length) a.ts,a.c⟩
noncomputable def kT (p:Nat) (k:List Nat):Nat→List (List (List Nat))→List (List (List Nat))
 |_,[]=>[]
 |i,g::r=>fb p k i g::kT p k (i+g.length) r
noncomputable def lF (d:List (List (List Nat))):Nat:=(d.map gK).sum
theorem Fz:∀{d:List (List (List Nat))} {i:Nat},kT p k i (d++[g])=kT p k i d++[fb p k (i+lF d) g]:=by
 intro d;induction d with
 |nil=>
  intro i;rfl
 |cons h d I=>
  intro i;show fb p k i h::kT p k (i+h.length) (d++[g])=_;rw[I,ev];rfl
theorem I1:∀{d:List (List (List Nat))} {i:Nat},(kT p k i d).length=d.length:=by
 intro d;induction d with
 |nil=>
  intro _;rfl
 |cons _ d I=>
  intro _;exact aS (·+1) (I)
noncomputable def o0 (a:aK) (p:Nat) (k:List Nat) (X:List (List (List Nat))) (i:Nat):au:=[(20,.l (bM a)),(11,.l (ag p)),(76,.l (a5 k)),(86,bE (.c (X.map dZ))),(48,.l (ag i))]
theorem Hi (h:g.length≤100):
  cc bw (aZ n) (dS 282 [2,1] ah (g.map a5) (o0 a p k X i++[(87,.l (dZ g)),(32,bE (.c []))]) Y) a' (o0 a p k X (i+g.length)++[(87,.l (dZ g)),(32,bE (.c ((fb p k i g).map a5)))]) Y:=by
 obtain⟨x,_,L⟩:=hm (n:=n) (g:=282) (b:=ah) [2,1] (fun x=>a5 x.1) g.zipIdx (fun d (_:Unit)=>o0 a p k X (i+d.length)++[(87,.l (dZ g)),(32,bE (.c ((d.map fun x=>if i+x.2=p then k else x.1).map a5)))]) (fun _ _=>Y) (fun _ _=>True) () trivial rfl fun D j r x e _=>⟨(),a',trivial,av rfl,by
  refine dM (tQ e) fun E _ m=> ?_;have A (y:List Nat):=kK (l:=(D.map fun x=>if i+x.2=p then k else x.1).map a5) (x:=a5 y) (by rw[aB,aB];exact ao (gJ m) (aD h rfl))
  refine ak cd (ak cd (ak bi ((ak E ?_):ff _ _ _ _ _ _ _ _ (o0 a p k X (i+(D.length+1))++[(87,.l (dZ g)),(32,bE (.c (_++[a5 (if i+j.2=p then k else j.1)])))]) _)))
  generalize(D.map fun x=>if i+x.2=p then k else x.1).map a5=q at A
  induction c:(i+D.length==p) with
  |true=>
   have A:=A k;refine ak (aJ (dL.mp c)) ?_;exact bq 0 [.x c,.u A]
  |false=>
   have A:=A j.1;refine ak (aL (c5.mp c)) ?_;exact bq 0 [.x c,.u A],rfl⟩
 have o:g.zipIdx.map (fun x=>a5 x.1)=g.map a5:=(eg (f:=yB) ..).symm.trans (aS (List.map a5) (xX 0 g));rw[o,pu] at L;exact L
theorem QG {a b c d n:Nat} (h:a+b+c+d≤n):a≤n∧b≤n∧c≤n∧d≤n:=nD (pm (pm (pm h))) (ao (gH ..) (pm (pm h))) (ao (gH ..) (pm h)) (ao (gH ..) h)
theorem xi (h:(bm a).length≤100):aE 1 282 [.l (bM a),.l (ag p),.l (a5 k)] Y (bM (iM p k a)) [] Y:=zo.of _ _ fun n f=>by
 have c:∀g∈[a.hs,a.os,a.rs,a.ts],g.length≤100:=by
  rw[gT] at h;simp only[pp,kh,false_implies,implies_true,and_true];exact QG h
 obtain⟨x,_,L⟩:=hm (g:=282) (b:=ah) [2] dZ [a.hs,a.os,a.rs,a.ts] (fun d (_:Unit)=>o0 a p k (kT p k 0 d) (lF d)) (fun _ _=>Y) (fun _ _=>True) () trivial rfl fun D g r x e _=>⟨(),a',trivial,av rfl,by
  have w:=Hi (n:=n) (p:=p) (i:=lF D) (a:=a) (k:=k) (X:=kT p k 0 D) (Y:=Y) (c g (eO e));have A:=kK (l:=(kT p k 0 D).map dZ) (x:=dZ (fb p k (lF D) g)) (by
   rw[aB,I1];have:=aS gK e;rw[bi] at this;exact ao (bu _ _) (ao (a9 this.symm) (show 4≤1000000 by decide)))
  rw[Fz,jI,show lF (D++[g])=lF D+g.length by unfold lF;rw[cd,x_];rfl];have E:(kT p k 0 D++[fb p k (lF D) g]).map dZ=(kT p k 0 D).map dZ++[dZ (fb p k (lF D) g)]:=cd;unfold o0 at w⊢;refine ak E ?_;exact bq 0 [.sub w,.u A],rfl⟩
 have E:kT p k 0 [a.hs,a.os,a.rs,a.ts]=[(iM p k a).hs,(iM p k a).os,(iM p k a).rs,(iM p k a).ts]:=by
  show[fb p k 0 a.hs,fb p k (0+a.hs.length) a.os,fb p k (0+a.hs.length+a.os.length) a.rs,fb p k (0+a.hs.length+a.os.length+a.rs.length) a.ts]=_;rw[jI];rfl
 rw[E] at L;exact aw 1 [.sub L]
abbrev e0 (k:List Nat):Prop:=gi k∧8∉k
theorem e0.sub (h:e0 k) (s:k'.Sublist k) (l:0<k'.length):e0 k':=
 ⟨(kS (jf.mp l) (h.1.2.1.sublist s) (fun u d=>h.1.2.2.1 u (s.subset d)) (fun c=>⟨fun b=>(h.1.2.2.2.1 (s.subset c)).1 (s.subset b),fun b=>(h.1.2.2.2.1 (s.subset c)).2 (s.subset b)⟩) (fun e f=>h.1.2.2.2.2 (s.subset e) (s.subset f))),fun g=>h.2 (s.subset g)⟩
theorem fg.kk (h:fg a):∀k∈bm a,e0 k:=h.ok.nk
theorem tB:fb p k a g=[]↔g=[]:=by
 rw[←fs,kH,fs]
theorem fg.put (h:fg a) (i:e0 k):fg (iM p k a)∧(bm (iM p k a)).length=(bm a).length:=by
 have m {x:List Nat} {A:Nat} {g:List (List Nat)} (s:g.Subset (bm a)) (f:x∈fb p k A g):e0 x:=(Mf x f).elim (fun e=>h.kk x (s e)) fun e=>e▸i;refine⟨⟨⟨ao (a9 kH) h.ok.rs,fun t e=>h.ok.ts (fun e=>t (tB.mpr e)) (tB.mp e),fun x f=> ?_,h.ok.c,h.ok.alt.imp tB.mpr tB.mpr⟩,ao h.d (a9 kH.symm),ao (a9 kH) h.h3,ao (a9 kH) h.c,ao (a9 kH) h.t1⟩, ?_⟩
 ·refine(dD.mp f).elim (fun f=>(dD.mp f).elim (fun f=>(dD.mp f).elim (m ?_) (m ?_)) (m ?_)) (m ?_)
  ·exact fun _ h=>cG _ (cG _ (cG _ h))
  ·exact fun _ h=>cG _ (cG _ (eD _ h))
  ·exact fun _ h=>cG _ (eD _ h)
  ·exact fun _ h=>eD _ h
 ·rw[gT,gT];show(fb ..).length+(fb ..).length+(fb ..).length+(fb ..).length=_;rw[kH,kH,kH,kH]
theorem Pi:eA (.c (l++[x])) (ae (-1))=ac x:=by
 show(i4 (-1) (l++[x]).length).bind (fun j=>(l++[x])[j]?)=_;have:i4 (-1) (l++[x]).length=ac l.length:=by
  unfold i4;refine ak bi (ak (aL (by decide)) ?_);refine ak (aJ (show 0≤((l.length+1:Nat):Int)+ -1 from Eg.mpr (gq.mpr (gH 1 l.length)))) ?_;exact aS ac (rr (l.length+1) 1)
 exact ak this (List.getElem?_concat_length)
theorem xr {a:Nat} (h:a≤l.length):f7 ah (ac (a:Int)) (.c l)=ac (.c (l.take a)):=by
 show ac (aj.c (dF l ah (ac (a:Int))))=_;unfold dF lG;simp[ua h]
theorem PO:fJ 2 (.c (l++[x])) []=ac (x,.c l):=by
 show(match(l++[x]).getLast? with|some d=>ac (d,b0.c (l++[x]).dropLast)|none=>ah)=_
 refine ak (Rw) (ak Rz ?_);rfl
noncomputable def zh (a:aK) (s:Nat) (x:b0×List aK×aK):au:=[(74,.a x.1),(20,.l (bM a)),(23,bE (.c (x.2.1.map bM++[bM x.2.2]))),(89,.l (ag (bm a).length)),(84,.l (ag s))]
structure Ti (a:aK) (d:List Nat) (x:b0×List aK×aK):Prop where
 D:gF x.1
 hb:∀b∈x.2.1,fg b
 sl:fg x.2.2
 c:(bm x.2.2).length=(bm a).length
 l:x.2.1.length≤d.length
theorem E' {a:aK} (ε:gF c) (S:fg a) (Y:ar) {G:Prop} (q:∀(B:List aK) U,aE 2 283 [.a c,.l (bM a)] Y (.c (B.map bM)) [U] Y→1≤B.length→B.length≤7→(∀b∈B,fg b)→gF U→G):G:=by
 refine S.small.elim fun V L=> ?_;have A:(bm a).length≤100:=aD V rfl;refine fG ε L Y fun s τ t υ D=>fG (n:=(bm a).length+1) D (m3 _) Y fun v ζ T η d=> ?_;have M:1+v≤6:=ao (f_ 1 v▸η) (b3 V)
 refine kV (N:=(1≤·)) (g:=283) (b:=ah) [3] ag (cv (1+v)) (zh a s) (fun _=>Y) (Ti a) (ζ,[],a) ⟨d,(fun _ h=>(by cases h)),S,rfl,bv _⟩ rfl
  (fun φ j r x e o χ q=> ?_) fun x o W=> ?_
 ·clear t T;have E:=ao (by rw[←gm (n:=1+v),e,bi];exact bu _ _) M;have X:=ao o.l E;have P:=zl (a:=s+j) L;have Z:(s+j)%(bm a).length<(bm x.2.2).length:=by rw[o.c];exact Nat.mod_lt _ L
  generalize(s+j)%(bm a).length=p at P Z;have⟨k,α⟩:∃k,(bm x.2.2)[p]? =ac k:=⟨_,cS Z⟩;have Q:=o.sl.kk k (eR α);have β:=Pi (l:=x.2.1.map bM) (x:=bM x.2.2);have f:=o.c▸A;have C:=sH (Y:=Y) f;have γ:eA (.c ((bm x.2.2).map a5)) (ag p)=ac (a5 k):=dH (by rw[dX,α];rfl);have R:k.length≤16777216:=aD Q.1.len rfl;induction c:aM (1<k.length) with
  |false=>
   refine q x ⟨o.D,o.hb,o.sl,o.c,ao o.l (by rw[bi];exact bu _ _)⟩ rfl fun n u=> ?_;have C:=C n u;exact bq 1 [.w P,.get β,.call C,.get γ,.p (ds:=k.map ag) (aB _) R,.y c]
  |true=>
   refine fG o.D (t3 (dB c)) Y fun w θ ι δ κ=> ?_;have z:1+w<k.length:=b6 (.c 1 (.a .b .n1) .f (.c 1 (.a .f .n1) .g (.g 1 (.a (.a .n1 .b) .n1) .g))) rfl δ (a9 (fi (b6 (.c 1 (.a .b .n1) .f (.c 1 .f .g (.g 1 .n1 .g))) rfl δ (it (k.length) (1)))));have μ:=Q.sub (RZ _ _) (by rw[rh];exact t3 z);refine(o.sl.put (p:=p) (Q.sub (DZ _ _) (by rw[DB (gJ z)];exact f_ 1 w▸m3 w))).elim fun ν ψ=> ?_;refine(o.sl.put (p:=p) μ).elim fun y F=> ?_;have ξ:eJ fU (ag k.length) (ae 1)=ac (ag (k.length-1)):=aS (fun i=>ac (ae i)) (yi (ao (bu 1 w) (gJ z))).symm;have ο:f7 ah (ac (1+(w:Int))) (.c (k.map ag))=ac (a5 (k.take (1+w))):=(xr (by rw[aB];exact gJ z)).trans (by unfold a5;rw[rq]);have π:f7 (ac (1+(w:Int))) ah (.c (k.map ag))=ac (a5 (k.drop (1+w))):=(qC).trans (by unfold a5;rw[yh]);have m:=kK (l:=(x.2.1++[iM p (k.take (1+w)) x.2.2]).map bM) (x:=bM (iM p (k.drop (1+w)) x.2.2)) (by rw[aB,bi];exact aD (b3 X) rfl);refine q (θ,x.2.1++[iM p (k.take (1+w)) x.2.2],iM p (k.drop (1+w)) x.2.2) ⟨κ,fun b h=>(dD.mp h).elim (o.hb b) fun h=>bW.mp h▸ν,y,F.trans o.c,by rw[bi,bi];exact b3 o.l⟩ rfl fun n u=> ?_;unfold zh;rw[cd] at m⊢;exact bq 68719476737 [.w P,.get β,.call (C n u),.get γ,.p (ds:=k.map ag) (aB _) R,.y c,.p (ds:=k.map ag) (aB _) R,.w ξ,.call (ι n u),.u (PO (l:=x.2.1.map bM) (x:=bM x.2.2)),.cut ο,.call ((xi (p:=p) (k:=k.take (1+w)) (Y:=Y) f) n u),.u (kK (l:=x.2.1.map bM) (x:=bM (iM p (k.take (1+w)) x.2.2)) (by rw[aB];exact aD X rfl)),.cut π,.call ((xi (p:=p) (k:=k.drop (1+w)) (Y:=Y) f) n u),.u m]
 ·have ρ:=sH (Y:=Y) A;have σ:(bm a).length≤16777216:=aD A rfl;have I:1+v≤100000:=aD M rfl;have E:=ao (gm▸o.l) M;rw[←jN] at W;refine q (x.2.1++[x.2.2]) x.1 (zo.of _ _ fun n u=> ?_) (by rw[bi];exact m3 _) (by refine ak bi ?_;exact b3 E) (fun b h=>(dD.mp h).elim (o.hb b) fun h=>bW.mp h▸o.sl) o.D;refine ak cd ?_;exact aw 69632 [.call (ρ n u),.p (ds:=(bm a).map a5) (aB _) σ,.call (t n u),.call (T n u),.le I,.sub (W n u)]
structure ih (b:aK):Prop where
 ok:b.Ok
 c:(bm b).length≤5
 sh:0<b.fr∨∃k,b=⟨[],[],[k],[],b.c⟩
theorem fg.b (h:fg a):ih a:=⟨h.ok,h.small.1,av (ft h.d (bu _ _))⟩
theorem wK {us:List a} (h:1≤us.length):f7 ah (ac (-1)) (.c (us.map f))=ac (.c ((us.take (us.length-1)).map f))∧f7 (ac (-1)) ah (.c (us.map f))=ac (.c ((us.drop (us.length-1)).map f)):=by
 have e:lG (-1) us.length=us.length-1:=by
  unfold lG;rw[aL (by decide)];exact(aS Int.toNat (SY ..)).trans (rr us.length 1)
 refine⟨?_, ?_⟩
 ·show ac (aj.c (dF (us.map f) ah (ac (-1))))=_;unfold dF;rw[aB,rq];show ac (aj.c (((us.map f).drop 0).take (lG (-1) us.length-0)))=_;refine ak e ?_;rfl
 ·show ac (aj.c (dF (us.map f) (ac (-1)) ah))=_;unfold dF;rw[aB,yh];show ac (aj.c (((us.map f).take us.length).drop (lG (-1) us.length)))=_;rw[e,DA (by rw[aB];exact bv _)]
theorem ny {m:List a} (h:l.length+m.length≤1000000):eJ b9 (.c (l.map f)) (.c (m.map f))=ac (.c ((l++m).map f)):=by
 rw[cd];exact aJ (by rw[aB,aB];exact h)
theorem oV (h:fg a) (c:e0 k) (d:b.rs.length≤1) (f:b.ts≠[]→b.rs≠[]) (g:∀x∈bm b,x∈bm a∨x=k) (i:b.c≤1) (j:b.os=[]∨b.ts=[]) (l:(bm b).length≤5) (m:0<b.fr∨∃k,b=⟨[],[],[k],[],b.c⟩):ih b:=
 ⟨⟨d,f,fun x n=>(g x n).elim (h.kk x) fun e=>e▸c,i,j⟩,l,m⟩
structure gx (c C h:b0) (a:aK) (p:Nat) (k:List Nat) (Y:ar) (w:Nat):Prop where
 sa:fg a
 t1:aE 1 277 [.a c,.l (ae 13)] Y (ag w) [C] Y
 t2:aE 1 277 [.a C,.l (ag (bm a).length)] Y (ag p) [h] Y
 D:gF h
 f:(bm a)[p]? =ac k
def i9 (c:b0) (a:aK) (Y:ar):Prop:=∀{G:Prop},(∀b C,aE 2 284 [.a c,.l (bM a)] Y (bM b) [C] Y→ih b→gF C→G)→G
section
theorem gx.c0 (h:gx c C j a p k Y w):aE 1 281 [.l (bM a)] Y (dZ (bm a)) [] Y:=sH (aD h.sa.small.1 rfl)
theorem gx.b (h:gx c C j a p k Y w):(bm a).length≤16777216:=aD h.sa.small.1 rfl
theorem gx.d (h:gx c C j a p k Y w):eA (.c ((bm a).map a5)) (ag p)=ac (a5 k):=dH (by rw[dX,h.f];rfl)
theorem gx.kk (h:gx c C j a p k Y w):e0 k:=h.sa.kk k (eR h.f)
theorem gx.i (h:gx c C j a p k Y w):k.length≤16777216:=aD h.kk.1.len rfl
theorem gx.g (h:gx c C j a p k Y w):1≤k.length:=jf.mpr h.kk.1.1
theorem gx.e (h:gx c C j a p k Y w) (k':List Nat):aE 1 282 [.l (bM a),.l (ag p),.l (a5 k')] Y (bM (iM p k' a)) [] Y:=xi (aD h.sa.small.1 rfl)
theorem gx.put (h:gx c l C a p k Y w) (j:e0 k') (r:aE 2 284 [.a c,.l (bM a)] Y (bM (iM p k' a)) [C] Y):i9 c a Y:=fun{G} q=>q _ C r (h.sa.put j).1.b h.D
theorem Cr (h:∃u∈k,u<9) (a:∀u∈k,u<8):e0 (cM k):=⟨lr h,fun h=>aR (a 8 (fp.mp h).2.1) (gI 8)⟩
theorem e0.lt (h:e0 k) (b:u∈k):u<8:=(x3 (iW (h.1.2.2.1 u b))).resolve_right fun e=>h.2 (e▸b)
theorem FM (h:gx c e g a p k Y 0):i9 c a Y:=by
 induction d:aM (1<k.length) with
 |true=>
  refine h.put (k':=k.take (k.length-1)) (h.kk.sub (DZ _ _) (by rw[DB (it _ _)];exact t3 (dB d))) (zo.of _ _ fun n b=> ?_);have C:=h.c0 n b;exact aw 16777216 [.call (h.t1 n b),.call C,.p (ds:=(bm a).map a5) (aB _) h.b,.call (h.t2 n b),.call C,.get h.d,.p (ds:=k.map ag) (aB _) h.i,.y d,.cut ((wK (f:=ag) h.g).1),.call (h.e (k.take (k.length-1)) n b)]
 |false=>
  refine h.put (k':=k) h.kk (zo.of _ _ fun n b=> ?_);have C:=h.c0 n b;exact aw 16777216 [.call (h.t1 n b),.call C,.p (ds:=(bm a).map a5) (aB _) h.b,.call (h.t2 n b),.call C,.get h.d,.p (ds:=k.map ag) (aB _) h.i,.y d,.call (h.e k n b)]
theorem Om (h:gx c j l a p k Y 1):i9 c a Y:=fun{G} q=>by
 refine fG (n:=8) h.D (aY rfl) Y fun u g t d D=> ?_;have U:∀x∈k++[u],x<8:=fun x i=>(dD.mp i).elim h.kk.lt fun e=>bW.mp e▸d;refine q _ g (zo.of _ _ fun n b=> ?_) (h.sa.put (p:=p) (Cr (bd u (eD _ (cU _)) (px d)) U)).1.b D;have C:=h.c0 n b;exact aw 33554432 [.call (h.t1 n b),.call C,.p (ds:=(bm a).map a5) (aB _) h.b,.call (h.t2 n b),.call C,.get h.d,.call (t n b),.w (ny (f:=ag) (m:=[u]) (aD (b3 h.kk.1.len) rfl)),.call ((sk (Y:=Y) U) n b),.call (h.e (cM (k++[u])) n b)]
theorem Ff (h:gx c d e a p k Y 2):i9 c a Y:=by
 refine h.put (k':=k.take 1) (h.kk.sub (DZ _ _) (by rw[DB h.g];exact Nat.one_pos)) (zo.of _ _ fun n b=> ?_);have C:=h.c0 n b;have t:f7 ah (ac 1) (.c (k.map ag))=ac (a5 (k.take 1)):=(xr (by rw[aB];exact h.g)).trans (by unfold a5;rw[rq]);exact aw 67108864 [.call (h.t1 n b),.call C,.p (ds:=(bm a).map a5) (aB _) h.b,.call (h.t2 n b),.call C,.get h.d,.cut t,.call (h.e (k.take 1) n b)]
theorem NN (h:gx c d e a p k Y 8):i9 c a Y:=by
 refine h.put (k':=k.drop (k.length-1)) (h.kk.sub (RZ _ _) (by rw[rh];have:=h.g;exact b6 (.c 1 .b (.a .f .g) (.c 1 (.a .g .n1) .b (.g 1 (.a .n0 .n1) .f))) rfl (g3.mp (bv (k.length-(k.length-1)))) (a9 (fi this)))) (zo.of _ _ fun n b=> ?_);have C:=h.c0 n b;exact aw 83886080 [.call (h.t1 n b),.call C,.p (ds:=(bm a).map a5) (aB _) h.b,.call (h.t2 n b),.call C,.get h.d,.cut ((wK (f:=ag) h.g).2),.call (h.e (k.drop (k.length-1)) n b)]
theorem MK (h:gx c j e a p k Y 3):i9 c a Y:=fun{G} q=>by
 have r:=h.sa.ok.c;have b:eJ fU (ae 1) (ag a.c)=ac (ag (1-a.c)):=aS (fun i=>ac (ae i)) (yi r).symm;refine q {a with c:=1-a.c} e (zo.of _ _ fun n d=> ?_) (oV h.sa h.kk h.sa.ok.rs h.sa.ok.ts (fun x f=>av f) (it _ _) h.sa.ok.alt h.sa.small.1 (av (ft h.sa.d (bu _ _)))) h.D;have t:=h.t2 n d;have C:=h.c0 n d;have l:=h.b;have g:=h.d;exact aw 83886080 [.call (h.t1 n d),.call C,.p (ds:=(bm a).map a5) (aB _) l,.call t,.call C,.get g,.w b]
theorem gx.ls (h:gx c C j a p k Y w):a.os.length≤16777216∧a.rs.length≤16777216∧a.ts.length≤16777216:=
 ⟨aD h.sa.c rfl,aD h.sa.ok.rs rfl,aD h.sa.t1 rfl⟩
theorem IF (h:gx c o g a p k Y 4):i9 c a Y:=fun{G} q=>by
 refine dM h.ls fun L r l=> ?_;induction D:(a.ts.length==0) with
 |false=>
  refine q a g (zo.of _ _ fun n b=> ?_) h.sa.b h.D;have C:=h.c0 n b;exact aw 100663296 [.call (h.t1 n b),.call C,.p (ds:=(bm a).map a5) (aB _) h.b,.call (h.t2 n b),.call C,.get h.d,.p (ds:=a.ts.map a5) (aB _) l,.x D]
 |true=>
  induction d:(a.os.length==0) with
  |false=>
   refine q a g (zo.of _ _ fun n b=> ?_) h.sa.b h.D;have C:=h.c0 n b;exact aw 100663296 [.call (h.t1 n b),.call C,.p (ds:=(bm a).map a5) (aB _) h.b,.call (h.t2 n b),.call C,.get h.d,.p (ds:=a.ts.map a5) (aB _) l,.x D,.p (ds:=a.os.map a5) (aB _) L,.x d]
  |true=>
   have e:bm ⟨a.hs.take (a.hs.length-1),a.hs.drop (a.hs.length-1),a.rs,a.ts,a.c⟩=bm a:=by
    unfold bm;rw[(fs.mp (dL.mp d)),c8];rw[DF]
   refine(wK (f:=a5) h.sa.d).elim fun i j=> ?_;refine q ⟨a.hs.take (a.hs.length-1),a.hs.drop (a.hs.length-1),a.rs,a.ts,a.c⟩ g (zo.of _ _ fun n b=> ?_) (oV h.sa h.kk h.sa.ok.rs h.sa.ok.ts (fun x m=>av (e▸m)) h.sa.ok.c (aI (fs.mp (dL.mp D))) (e▸h.sa.small.1) (av (by
    show 0<(a.hs.take _).length+(a.hs.drop _).length;rw[←bi,DF];exact h.sa.d))) h.D
   have C:=h.c0 n b;exact aw 100663296 [.call (h.t1 n b),.call C,.p (ds:=(bm a).map a5) (aB _) h.b,.call (h.t2 n b),.call C,.get h.d,.p (ds:=a.ts.map a5) (aB _) l,.x D,.p (ds:=a.os.map a5) (aB _) L,.x d,.cut i,.cut j]
theorem Gf (h:gx c r g a p k Y 5):i9 c a Y:=fun{G} q=>by
 refine dM h.ls fun o L l=> ?_;induction D:(a.ts.length==0) with
 |false=>
  refine q a g (zo.of _ _ fun n b=> ?_) h.sa.b h.D;have C:=h.c0 n b;exact aw 117440512 [.call (h.t1 n b),.call C,.p (ds:=(bm a).map a5) (aB _) h.b,.call (h.t2 n b),.call C,.get h.d,.p (ds:=a.ts.map a5) (aB _) l,.x D]
 |true=>
  induction d:(a.rs.length==0) with
  |false=>
   refine q a g (zo.of _ _ fun n b=> ?_) h.sa.b h.D;have C:=h.c0 n b;exact aw 117440512 [.call (h.t1 n b),.call C,.p (ds:=(bm a).map a5) (aB _) h.b,.call (h.t2 n b),.call C,.get h.d,.p (ds:=a.ts.map a5) (aB _) l,.x D,.p (ds:=a.rs.map a5) (aB _) L,.x d]
  |true=>
   have E:=fs.mp (dL.mp d);have e:=fs.mp (dL.mp D);have i:bm ⟨a.hs,a.os++[k],a.rs,a.ts,a.c⟩=bm a++[k]:=by
    unfold bm;rw[E,e,c8,c8,c8,c8,ef]
   refine q ⟨a.hs,a.os++[k],a.rs,a.ts,a.c⟩ g (zo.of _ _ fun n b=> ?_) (oV h.sa h.kk h.sa.ok.rs h.sa.ok.ts (fun x j=>(dD.mp (i▸j)).imp id bW.mp) h.sa.ok.c (aI e) (by
    rw[i,bi,gT,E,e];exact b3 (dd h.sa.h3 h.sa.c)) (av (ft h.sa.d (bu _ _)))) h.D
   have C:=h.c0 n b;exact aw 117440512 [.call (h.t1 n b),.call C,.p (ds:=(bm a).map a5) (aB _) h.b,.call (h.t2 n b),.call C,.get h.d,.p (ds:=a.ts.map a5) (aB _) l,.x D,.p (ds:=a.rs.map a5) (aB _) L,.x d,.w (ny (f:=a5) (m:=[k]) (aD (b3 h.sa.c) rfl))]
theorem JQ (h:gx c A m a p k Y 6):i9 c a Y:=fun{G} q=>by
 have⟨B,L,D⟩:=h.ls;have b:=ny (f:=a5) (aD (dd h.sa.h3 h.sa.t1) rfl);have s {x y:List (List Nat)}:0<aK.fr ⟨a.hs++a.ts,a.os,x,y,a.c⟩:=ft h.sa.d (by
  show _≤(a.hs++a.ts).length+_;rw[bi];exact ao (bu _ _) (bu _ _))
 have u:=h.sa.small.1;rw[gT] at u;have w:=h.sa.h3;have o:=h.sa.c;induction d:aM (0<a.rs.length) with
 |false=>
  have E:=fs.mp (Nat.eq_zero_of_not_pos (rl d));have v:=gl fun z=>h.sa.ok.ts z E;have e:bm ⟨a.hs++a.ts,a.os,[k],[],a.c⟩=bm a++[k]:=by
   unfold bm;rw[E,v,c8,c8,c8,c8]
  refine q ⟨a.hs++a.ts,a.os,[k],[],a.c⟩ m (zo.of _ _ fun n i=> ?_) (oV h.sa h.kk (bv 1) (fun h=>aR rfl h) (fun x j=>(dD.mp (e▸j)).imp id bW.mp) h.sa.ok.c (aI rfl) (by
   rw[e,bi,gT,E,v];exact b3 (dd w o)) (av s)) h.D
  have t:=h.t1 n i;have T:=h.t2 n i;have C:=h.c0 n i;have l:=h.b;have g:=h.d;exact aw 134217728 [.call t,.call C,.p (ds:=(bm a).map a5) (aB _) l,.call T,.call C,.get g,.w b,.p (ds:=a.rs.map a5) (aB _) L,.y d]
 |true=>
  have r:=dB d;have e:bm ⟨a.hs++a.ts,a.os,[],[],a.c⟩=a.hs++a.ts++a.os:=by
   unfold bm;rw[c8,c8]
  refine q ⟨a.hs++a.ts,a.os,[],[],a.c⟩ m (zo.of _ _ fun n i=> ?_) (oV h.sa h.kk (cA 1) (fun h=>aR rfl h) (fun x j=>av ((dD.mp (e▸j)).elim (fun j=>(dD.mp j).elim (fun h=>cG _ (cG _ (cG _ h))) (eD _)) fun h=>cG _ (cG _ (eD _ h)))) h.sa.ok.c (aI rfl) (by
   rw[e,bi,bi];exact b8 (.c 1 (.a (.a (.a .b .f) .g) .j) (.n 5) (.g 1 (.a (.a .b .j) .f) (.n 5))) rfl u) (av s)) h.D
  have t:=h.t1 n i;have T:=h.t2 n i;have C:=h.c0 n i;have l:=h.b;have g:=h.d;exact aw 134217728 [.call t,.call C,.p (ds:=(bm a).map a5) (aB _) l,.call T,.call C,.get g,.w b,.p (ds:=a.rs.map a5) (aB _) L,.y d]
noncomputable def AZ:List (List Nat)→il
 |[]=>bE (.c [])
 |d=>.l (a5 d.flatten)
theorem Oc (h:gx c γ U a p k Y 7):i9 c a Y:=fun{G} q=>by
 refine h.sa.small.elim fun L l=> ?_;have F {d r:List (List Nat)} (e:bm a=d++r):d.flatten.length≤9*d.length:=by
  have:∀d:List (List Nat),(∀x∈d,x.length≤9)→d.flatten.length≤9*d.length:=fun d=>by
   induction d with
   |nil=>exact fun _=>bv _
   |cons x d i=>
    intro h;rw[D2,bi,mY,Ey,f_];exact dd (i fun y α=>h y (e9 _ α)) (h x (cU _))
  exact this d fun x j=>(h.sa.kk x (e▸cG _ j)).1.len
 have v:∀u∈(bm a).flatten,u<8:=fun u w=>ay (t5.mp w) fun x j β=>(h.sa.kk x j).lt β;have I:∃u∈(bm a).flatten,u<9:=by
  have m:=k1 l;exact(nS _ (h.sa.kk _ m).1.1).elim fun u w=>⟨u,t5.mpr ⟨_,m,w⟩,px (v u (t5.mpr ⟨_,m,w⟩))⟩
 have M:=Cr I v;refine q ⟨[],[],[cM (bm a).flatten],[],a.c⟩ U (zo.of _ _ fun n A=> ?_) (oV h.sa M (bv 1) (fun h=>aR rfl h) (fun x j=>aI (bW.mp j)) h.sa.ok.c (av rfl) (by refine(?_:1≤5);decide) (aI ⟨_,rfl⟩)) h.D;have t:=h.t1 n A;have T:=h.t2 n A;have C:=h.c0 n A;have N:=h.b;have P:=h.d;have Q:=sk (Y:=Y) v n A;obtain⟨x,_,S⟩:=hm (n:=n) (g:=284) (b:=ah) [11,0,1] a5 (bm a) (fun d (_:Unit)=>[(74,.a U),(20,.l (bM a)),(80,.l (dZ a.hs)),(82,.l (dZ a.os)),(66,.l (dZ a.rs)),(83,.l (dZ a.ts)),(7,.l (ag a.c)),(81,.l (ag 7)),(11,.l (ag p)),(76,.l (a5 k)),(17,AZ d)]) (fun _ _=>Y) (fun _ _=>True) () trivial rfl fun D z R x e _=>⟨(),a',trivial,av rfl,by
  have l:=F (e.trans (rk ..));rw[bi] at l;have V:=ao (by rw[e,bi];exact cj (m3 _) _) L;have W:D.flatten.length+z.length≤1000000:=by
   rw[RH,bi,Rm] at l;exact ao l (aD (fh 9 V) rfl)
  have B:=ny (f:=ag) W;have X:(D++[z]).flatten=D.flatten++z:=by rw[RH,Rm]
  clear t T C Q I M q h F v L N P e l V W;induction D using cn with
  |nil=>
   refine(?_:ff _ _ _ _ _ _ _ _ [_,_,_,_,_,_,_,_,_,_,(17,.l (a5 ([]++[z]).flatten))] _);refine ak X ?_;exact bq 0 [.w B]
  |cons y D=>
   refine((ak X ?_):ff _ _ _ _ _ _ _ _ [_,_,_,_,_,_,_,_,_,_,(17,.l (a5 ((y::D)++[z]).flatten))] _);exact bq 0 [.w B],rfl⟩
 have s:∃o,AZ (bm a)=o∧(o=bE (.c ((bm a).flatten.map ag))∨o=.l (a5 (bm a).flatten)):=⟨_,rfl,by
  cases bm a with
  |nil=>exact av rfl
  |cons _ _=>exact aI rfl⟩
 refine ay s fun o Z E=> ?_;rw[Z] at S;clear s Z I M q h F v L l;induction E with
 |inl E=>subst E;exact aw 150994944 [.call t,.call C,.p (ds:=(bm a).map a5) (aB _) N,.call T,.call C,.get P,.call C,.sub S,.call Q]
 |inr E=>subst E;exact aw 150994944 [.call t,.call C,.p (ds:=(bm a).map a5) (aB _) N,.call T,.call C,.get P,.call C,.sub S,.call Q]
theorem M' (h:gx c e d a p k Y (w+9)):i9 c a Y:=fun{G} q=>by
 refine q a d (zo.of _ _ fun n b=> ?_) h.sa.b h.D;have C:=h.c0 n b;exact aw 0 [.call (h.t1 n b),.call C,.p (ds:=(bm a).map a5) (aB _) h.b,.call (h.t2 n b),.call C,.get h.d]
theorem Ml:∀w,gx c C b a p k Y w→i9 c a Y
 |0,h=>FM h
 |1,h=>Om h
 |2,h=>Ff h
 |3,h=>MK h
 |4,h=>IF h
 |5,h=>Gf h
 |6,h=>JQ h
 |7,h=>Oc h
 |8,h=>NN h
 |_+9,h=>M' h
end
theorem Iq (h:gF c) (s:fg a) (Y:ar):i9 c a Y:=
 fG h (aY rfl) Y fun w C t _ D=>fG D s.small.2 Y fun p e T b d=>Ml w ⟨s,t,T,d,cS b⟩
noncomputable def BA (a:aK) (x:b0×List aK):au:=[(74,.a x.1),(20,.l (bM a)),(23,bE (.c (x.2.map bM)))]
structure Tb (d:List aK) (x:b0×List aK):Prop where
 D:gF x.1
 p:∀b∈x.2,ih b
 l:x.2.length≤d.length
theorem LD (I:gF c) (s:fg a) (Y:ar) {G:Prop} (q:∀(H:List aK) A,aE 4 294 [.a c,.l (bM a)] Y (.c (H.map bM)) [A] Y→1≤H.length→H.length≤8→(∀b∈H,ih b)→gF A→G):G:=by
 refine E' I s Y fun M P u _ B U V=> ?_
 refine kV (N:=(3≤·)) (g:=294) (b:=ah) [1] bM M (BA a) (fun _=>Y) Tb (P,[]) ⟨V,(fun _ h=>(by cases h)),bv _⟩ rfl
  (fun X j R x e k Z q=>fG (n:=6) k.D (aY rfl) Y fun v y t W D=> ?_) fun x k L=> ?_
 ·have E:=ao (by rw[e,bi];exact bu _ _) B;induction d:aM (0<v) with
  |true=>
   refine Iq D (U j (eO e)) Y fun b C T p z=> ?_;have m:=kK (l:=x.2.map bM) (x:=bM b) (by rw[aB];exact aD (ao k.l E) rfl);refine q (C,x.2++[b]) ⟨z,ja k.p p,by refine ak bi ?_;refine ak bi ?_;exact b3 k.l⟩ rfl fun n i=> ?_;have t:=t n (bl i rfl);have T:=T n (bl i rfl);unfold BA;refine ak cd ?_;exact bq 0 [.call t,.y d,.call T,.u m]
  |false=>
   refine q (y,x.2) ⟨D,k.p,ao k.l (by rw[bi];exact bu _ _)⟩ rfl fun n i=> ?_;have t:=t n (bl i rfl);exact bq 0 [.call t,.y d]
 ·have E:=ao k.l B;have F:x.2.length≤16777216:=aD E rfl;refine fG (n:=4) k.D (aY rfl) Y fun v y t W D=> ?_;have o (Q:(v==0)=ai) (w:(x.2.length==0)=ai):G:=by
   refine q x.2 y (zo.of _ _ fun n i=> ?_) (x2 (c5.mp w)) (rf E) k.p D;have u:=u n (bl i rfl);have L:=L n i;have t:=t n (bl i rfl);exact aw 0 [.call u,.sub L,.call t,.x Q,.p (ds:=x.2.map bM) (aB _) F,.x w]
  refine AH D Y fun b C T S _ z=> ?_;have m:=kK (l:=x.2.map bM) (x:=bM b) (by rw[aB];exact aD E rfl)
  have f (r:aE 4 294 [.a c,.l (bM a)] Y (.c (x.2.map bM++[bM b])) [C] Y):G:=
   q (x.2++[b]) C (by refine ak cd ?_;exact r) (by refine ak bi ?_;exact m3 _) (by refine ak bi ?_;exact b3 E) (ja k.p S.b) z
  induction Q:(v==0) with
  |true=>
   refine f (zo.of _ _ fun n i=> ?_);have u:=u n (bl i rfl);have L:=L n i;have t:=t n (bl i rfl);have T:=T n i;exact aw 0 [.call u,.sub L,.call t,.x Q,.call T,.u m]
  |false=>
   induction w:(x.2.length==0) with
   |false=>exact o Q w
   |true=>
    refine f (zo.of _ _ fun n i=> ?_);exact aw 0 [.call (u n (bl i rfl)),.sub (L n i),.call (t n (bl i rfl)),.x Q,.p (ds:=x.2.map bM) (aB _) F,.x w,.call (T n i),.u m]
section
theorem zd (I:aW R) (e:R.length≤1000000) {G:Prop} (q:∀t r,aE 2 158 [.l (an 0),.l (ag u)] (aF R::J) (ag t) [] (aF r::J)→aW r→bL R r→r.length≤R.length+1→r[t]? =ac (.j [ae 4,ag u,ae 0])→G):G:=
 qa (J:=J) I ⟨rfl,rfl⟩ e fun t r h a b c d=>q t r (zo.of _ _ fun n f=>by
  exact aw 0 [.call (h n f)]) a b c d
theorem PV (I:aW R) (e:R.length≤1000000) {G:Prop} (q:∀t r,aE 2 157 [.l (an 0),.l (bP "a")] (aF R::J) (ag t) [] (aF r::J)→aW r→bL R r→r.length≤R.length+1→r[t]? =ac (.j [ae 3,bP "a",ae 0])→G):G:=
 qa (J:=J) I ⟨wt 2 (aY rfl),rfl⟩ e fun t r h a b c d=>q t r (zo.of _ _ fun n f=>by
  exact aw 0 [.call (h n f)]) a b c d
theorem Ag (f:b<2) (I:aW R) (g:R.length≤1000000) {G:Prop} (q:∀t r,aE 2 159 [.l (an 0),.l (ag b)] (aF R::J) (ag t) [] (aF r::J)→aW r→bL R r→r.length≤R.length+1→r[t]? =ac (.j [ae 2,ag b,ae 0])→G):G:=
 qa (J:=J) I ⟨rfl,rfl⟩ g fun t r h a c d e=>q t r (zo.of _ _ fun n i=>by
  have h:=h n i;clear q I
  match b,f with
  |0,_=>exact aw 1 [.call h]
  |1,_=>exact aw 1 [.call h]) a c d e
noncomputable def rP (k:List Nat) (X:List aj):au:=[(1,.l (an 0)),(76,.l (a5 k)),(32,bE (.c X))]
def HX (k:List Nat) (R:List aj) (J:ar) (X:List aj) (j:Nat):Prop:=∀{h:Prop},(∀t r,aW r→bL R r→r.length≤R.length+1→cq r t j→(∀n,2≤n→ff n 292 [1] (hn (rP k [])) (ag j) (rP k X) (aF R::J) a' (rP k (X++[ag t])) (aF r::J))→h)→h
theorem mj {P:Nat→Prop} (h:∀{p},p<n→P p) (a:P n):∀{p},p<n+1→P p:=fun b=>(x3 (iW b)).elim h fun e=>e▸a
theorem w3 {P:Nat→Prop} (a:P 0) (b:P 1) (c:P 2) (d:P 3) (e:P 4) (f:P 5) (g:P 6) (i:P 7):∀{p},p<8→P p:=
 mj (mj (mj (mj (mj (mj (mj (mj (fun h=>aR h (rn _)) a) b) c) d) e) f) g) i
theorem Mr {k:List Nat} {X:List aj} (I:aW R) (e:R.length≤1000000) (f:X.length≤1000000):j<8→HX k R J X j:=by
 have a (t:Nat):=kK (x:=ag t) f;refine w3 ?_ ?_ ?_ ?_ ?_ ?_ ?_ ?_<;>intro g q
 ·refine zd (J:=J) I e fun t c h i d z r=>q t c i d z ⟨r,aY rfl⟩ fun n b=> ?_;have h:=h n b;have a:=a t;exact bq 1 [.call h,.u a]
 ·refine zd (J:=J) I e fun t c h i d z r=>q t c i d z ⟨r,aY rfl⟩ fun n b=> ?_;have h:=h n b;have a:=a t;exact bq 1 [.call h,.u a]
 ·refine PV (J:=J) I e fun t c h i d z r=>q t c i d z ⟨r,aY rfl⟩ fun n b=> ?_;have h:=h n b;have a:=a t;exact bq 2 [.call h,.u a]
 ·refine Ag (J:=J) (aY rfl) I e fun t c h i d z r=>q t c i d z ⟨r,aY rfl⟩ fun n b=> ?_;have h:=h n b;have a:=a t;exact bq 4 [.call h,.u a]
 ·refine Ag (J:=J) (aY rfl) I e fun t c h i d z r=>q t c i d z ⟨r,aY rfl⟩ fun n b=> ?_;have h:=h n b;have a:=a t;exact bq 4 [.call h,.u a]
 ·refine q 5 R I .f (fQ _) I.un.2.1 fun n b=> ?_;have a:=a 5;exact bq 5 [.u a]
 ·refine q 7 R I .f (fQ _) I.un.2.2.2.1 fun n b=> ?_;have a:=a 7;exact bq 5 [.u a]
 ·refine q 6 R I .f (fQ _) I.un.2.2.1 fun n b=> ?_;have a:=a 6;exact bq 5 [.u a]
structure Tj (R:List aj) (d:List Nat) (y:List (Nat×List Nat×List Nat)×List aj):Prop where
 I:aW y.2
 x:bL R y.2
 z:y.2.length≤R.length+d.length
 hq:∀q∈y.1,bH y.2 q.1 q.2.1 q.2.2
 a:y.1.map (·.2.1)=d.map fun u=>[u]
theorem wD (I:aW R) (c:e0 k) (s:R.length≤900000) {G:Prop} (q:∀t r O,aE 5 292 [.l (an 0),.l (a5 k)] (aF R::J) (ag t) [] (aF r::J)→aW r→bL R r→r.length≤R.length+10→bH r t k O→G):G:=by
 have v:=c.1.len
 refine kV (N:=(2≤·)) (g:=292) (b:=ah) [1] ag k (fun x=>rP k (x.1.map fun q=>ag q.1)) (fun x=>aF x.2::J) (Tj R) ([],R) ⟨I,.f,bv _,(fun _ h=>(by cases h)),rfl⟩ rfl
  (fun D j y x e a A q=> ?_) fun x a l=> ?_
 ·have d:=ao (by rw[e,bi];exact bu _ _) v;refine Mr (k:=k) (J:=J) a.I (ao a.z (aD (dd s d) rfl)) (X:=x.1.map fun q=>ag q.1) (by rw[aB,((aB _).symm.trans ((aS gK a.a).trans (aB _)))];exact aD d rfl) (c.lt (eO e)) fun t o i f z u T=> ?_;refine q (x.1++[(t,[j],[t])],o) ⟨i,a.x.trans f,by rw[bi];exact ao z (b3 a.z),ja (fun q h=>(a.hq q h).mono f) (.d i u),by refine ak cd (ak cd (ak a.a ?_));rfl⟩ rfl fun n m=> ?_;exact ak cd (T n m)
 ·have w:x.1≠[]:=fun e=>c.1.1 (DO.mp (by refine ak (cB a.a) (ak e ?_);rfl));have Z:=ao a.z (cj v _);refine sI (J:=J) a.I (av rfl) a.hq w (ao Z (aD (dc s 9) rfl)) fun t o O h i f z p=> ?_;rw[D6,a.a,←D6,List.flatMap_singleton',q6 c.1] at p;refine q t o O (zo.of _ _ fun n m=> ?_) i (a.x.trans f) (ao z (b3 Z)) p;exact aw 0 [.sub (l n (bl m rfl)),.call (h n m)]
end
section
structure JA (R:List aj) (mk:Nat) (d:List (List Nat)) (y:List (Nat×Nat)×List aj):Prop where
 I:aW y.2
 x:bL R y.2
 z:y.2.length≤R.length+10*d.length
 ks:b5 y.2 y.1 (d.map (·,mk))
theorem rM (I:aW R) (f:∀x∈g,e0 x) (m:mk<3) (o:R.length+10*g.length≤900000)
  (T:∀n b r x t,aZ n 292 [.l (an 0),.l (a5 x)] (aF b::J) (ag t) [] (aF r::J)→iD (dw bw (aZ n) k) (kx 293 p i k (a5 x) L (aF b::J)) [bc (t,mk)] L (aF r::J))
  {G:Prop} (q:∀E c,JA R mk g (E,c)→(∀n,5≤n→cc bw (aZ n) (eu 293 p i k (g.map a5) L (aF R::J)) (.h (.c (bf E))) L (aF c::J))→G):G:=
 qJ p i k a5 g (fun x:List (Nat×Nat)×List aj=>bf x.1) (fun _=>L) (fun x=>aF x.2::J) (JA R mk) ([],R) ⟨I,.f,bv _,g'⟩ rfl
  (fun d j v x e a y q=>by
   have l:d.length≤g.length:=by exact ak e (ak bi (bu _ _))
   refine wD (J:=J) a.I (f j (eO e)) (ao a.z (ao (cj (fh 10 l) _) o)) fun t r O h s X z P=> ?_;exact q (x.1++[(t,mk)],r) [bc (t,mk)] ⟨s,a.x.trans X,by refine ak bi ?_;exact ao z (dc a.z 10),by refine ak cd ?_;exact(a.ks.mono X).app (gQ P m g')⟩ cd fun n u=>T n _ _ _ _ (h n u))
  fun x a w=>q x.1 x.2 a w
theorem vV (h:A.length+B.length≤1000000):eJ b9 (.c (bf A)) (.c (bf B))=ac (.c (bf (A++B))):=ny h
noncomputable def sK (b:aK):au:=[(1,.l (an 0)),(20,.l (bM b)),(80,.l (dZ b.hs)),(82,.l (dZ b.os)),(66,.l (dZ b.rs)),(83,.l (dZ b.ts)),(7,.l (ag b.c))]
structure S7 (R:List aj) (b:aK) (t:Nat) (r:List aj):Prop where
 I:aW r
 x:bL R r
 z:r.length≤R.length+60
 li:cg r t b
 row:0<b.fr→∃E,r[t]? =ac (.j [ae 12,.j (bf E),ag b.c])∧b5 r E b.els
theorem ze (I:aW R) (γ:ih b) (m:R.length≤800000) {G:Prop} (q:∀t ζ,aE 6 293 [.l (an 0),.l (bM b)] (aF R::J) (ag t) [] (aF ζ::J)→S7 R b t ζ→G):G:=by
 have o:=γ.ok;have l:=γ.c;have D:∀k∈bm b,e0 k:=o.nk;have f:=gT (a:=b);have N:(bm b).length≤100:=aD l rfl;have c:=sH (Y:=aF R::J) N;have φ:(bm b).length≤16777216:=aD N rfl;have η:b.rs.length≤16777216:=aD o.rs rfl;by_cases F:0<b.fr
 ·have θ:b.hs.length≤5:=e6 (.c 1 .b (.n 5) (.c 1 (.a (.a (.a .f .g) .j) .l) .b (.g 1 .f (.n 5)))) rfl l (a9 (cB f));have χ:b.os.length≤5:=e6 (.c 1 .b (.n 5) (.c 1 (.a (.a (.a .f .g) .j) .l) .b (.g 1 .g (.n 5)))) rfl l (a9 (cB f));have ψ:b.rs.length≤5:=e6 (.c 1 .b (.n 5) (.c 1 (.a (.a (.a .f .g) .j) .l) .b (.g 1 .j (.n 5)))) rfl l (a9 (cB f));have ω:b.ts.length≤5:=e6 (.c 1 .b (.n 5) (.c 1 (.a (.a (.a .f .g) .j) .l) .b (.g 1 .l (.n 5)))) rfl l (a9 (cB f));have P {g:List (List Nat)} (h:g.length≤5):(g.map a5).length≤b4:=by rw[aB];exact aD h rfl
  refine rM (p:=[2]) (i:=0) (k:=59) (mk:=0) (L:=sK b) (J:=J) I (fun x h=>D x (cG _ (cG _ (cG _ h)))) (aY rfl) (cD (.c 1 .b (.n 800000) (.c 10 .f (.n 5) (.g 1 (.a .b (.m 10 .f)) (.n 900000)))) rfl m θ) (fun n M C x t h=>by
   exact cZ 0 [.call h]) fun E M s w=> ?_
  refine rM (p:=[3]) (i:=0) (k:=57) (mk:=1) (L:=sK b++[(8,.l (.c (bf E)))]) (J:=J) s.I (fun x h=>D x (cG _ (cG _ (eD _ h)))) (aY rfl) (by have:=s.z;exact lB (.c 1 .b (.n 800000) (.c 10 .f (.n 5) (.c 10 (.a (.a (.a .g .j) .l) .o) .f (.c 1 .p (.a .b (.m 10 .g)) (.g 1 (.a .p (.m 10 .j)) (.n 900000)))))) rfl m l (a9 (cB f)) this) (fun n M C x t h=>by
   exact cZ 0 [.call h]) fun Q C v W=> ?_
  refine rM (p:=[4]) (i:=0) (k:=57) (mk:=2) (L:=sK b++[(8,.l (.c (bf (E++Q))))]) (J:=J) v.I (fun x h=>D x (cG _ (eD _ h))) (aY rfl) (by have u:=s.z;have U:=v.z;exact tf (.c 1 .b (.n 800000) (.c 10 .f (.n 5) (.c 10 (.a (.a (.a .g .j) .l) .o) .f (.c 1 .p (.a .b (.m 10 .g)) (.c 1 .q (.a .p (.m 10 .j)) (.g 1 (.a .q (.m 10 .l)) (.n 900000))))))) rfl m l (a9 (cB f)) u U) (fun n M C x t h=>by
   exact cZ 0 [.call h]) fun δ b₂ y S=> ?_
  refine rM (p:=[5]) (i:=0) (k:=56) (mk:=0) (L:=sK b++[(8,.l (.c (bf (E++Q++δ))))]) (J:=J) y.I (fun x h=>D x (eD _ h)) (aY rfl) (by have u:=s.z;have U:=v.z;have a₀:=y.z;exact qX (.c 1 .b (.n 800000) (.c 10 .f (.n 5) (.c 10 (.a (.a (.a .g .j) .l) .o) .f (.c 1 .p (.a .b (.m 10 .g)) (.c 1 .q (.a .p (.m 10 .j)) (.c 1 .r (.a .q (.m 10 .l)) (.g 1 (.a .r (.m 10 .o)) (.n 900000)))))))) rfl m l (a9 (cB f)) u U a₀) (fun n M C x t h=>by
   exact cZ 0 [.call h]) fun ι κ A V=> ?_
  have μ:κ.length≤R.length+50:=qX (.c 1 .b (.a .f (.m 10 .g)) (.c 1 .j (.a .b (.m 10 .l)) (.c 1 .o (.a .j (.m 10 .p)) (.c 1 .q (.a .o (.m 10 .r)) (.c 10 (.a (.a (.a .g .l) .p) .r) (.n 5) (.g 1 .q (.a .f (.n 50)))))))) rfl s.z v.z y.z A.z (ao (a9 f.symm) l);have α:b5 κ (E++Q++δ++ι) b.els:=(((s.ks.mono (v.x.trans (y.x.trans A.x))).app (v.ks.mono (y.x.trans A.x))).app (y.ks.mono A.x)).app A.ks;have Z:(E++Q++δ++ι).length≤5:=by
   rw[α.len];unfold aK.els;rw[bi,bi,bi,aB,aB,aB,aB,←f];exact l
  refine Bn (J:=J) A.I o α.marks F (aD Z rfl) (r:=b.c) (ao μ (aD (dc m 50) rfl)) fun t a₁ h a₂ X a₃ β=>q t a₁ (zo.of _ _ fun n j=> ?_) ⟨a₂,(s.x.trans (v.x.trans (y.x.trans A.x))).trans X,ao a₃ (ao (b3 μ) (cj (show 51≤60 by decide) _)),.d o β (α.mono X) F,fun _=>⟨_,β,α.mono X⟩⟩;have c:=c n (bl j rfl);have w:=w n j;have W:=W n j;have S:=S n j;have V:=V n j;have h:=h n (bl j rfl);rw[bi] at Z;have z:=ao Z (show 5≤1000000 by decide);have B:=vV z;rw[bi] at z;have ν:=vV (ao (bu _ _) z);rw[bi] at z;have ξ:=vV (ao (bu _ _) (ao (bu _ _) z));have ο:=P θ;have π:=P χ;have ρ:=P ψ;have σ:=P ω;have a₄:b.rs.length=1→(bm b).length≠1:=fun e q=>kY 0 (b8 (.c 1 .n1 (.a .b .f) (.c 1 .n1 .g (.c 1 (.a (.a (.a .b .f) .g) .j) .n1 (.g 1 .n1 .n0)))) rfl F (a9 e.symm) (a9 (f.symm.trans q)));induction d:(b.rs.length==1) with
  |false=>exact aw 0 [.p (ds:=b.rs.map a5) (aB _) η,.x d,.le ο,.sub w,.le π,.sub W,.w ξ,.le ρ,.sub S,.w ν,.le σ,.sub V,.w B,.call h]
  |true=>
   exact aw 0 [.p (ds:=b.rs.map a5) (aB _) η,.x d,.call c,.p (ds:=(bm b).map a5) (aB _) φ,.x (c5.mpr (a₄ (dL.mp d))),.le ο,.sub w,.le π,.sub W,.w ξ,.le ρ,.sub S,.w ν,.le σ,.sub V,.w B,.call h]
 ·refine(γ.sh.resolve_left F).elim fun k ε=> ?_;have a₅:=D k (by refine ak ε ?_;exact cU _);generalize b.c=r at ε;subst ε;refine wD (J:=J) I a₅ (aD m rfl) fun t M O a₆ a₇ a₈ τ p=>CG (J:=J) (e:=t) (r:=r) a₇ (ao τ (aD (dc m 10) rfl)) fun T C a₉ b₀ υ b₁ β=>q T C (zo.of _ _ fun n j=> ?_) ⟨b₀,a₈.trans υ,ao b₁ (ao (b3 τ) (cj (show 11≤60 by decide) _)),⟨o,av ⟨t,k,O,β,p.mono υ,rfl,rfl,rfl,rfl⟩⟩,fun h=>aR h F⟩;exact aw 50 [.call (c n (bl j rfl)),.call (a₆ n (bl j rfl)),.call (a₉ n (bl j rfl))]
end
theorem cg.at {R:List aj} {t:Nat} {l:aK} (h:cg R t l):∃row w,R[t]? =ac row∧jD row w∧w= -1:=by
 rcases h.2 with⟨e,k,O,a,_⟩|⟨E,a,_⟩
 ·exact⟨_,_,a,.c _ _,rfl⟩
 ·exact er _ _ a (.j _ _) rfl
theorem O1 {u:Nat}:jb u= -1∨(jb u=(7:Nat)∧u≠6)∨(jb u=(6:Nat)∧u≠7):=by
 induction u using ir with
 |zero=>exact aI (av ⟨rfl,Nat.noConfusion⟩)
 |succ u=>
  induction u using ir with
  |zero=>exact aI (av ⟨rfl,by decide⟩)
  |succ u=>
   induction u using ir with
   |zero=>exact aI (aI ⟨rfl,by decide⟩)
   |succ u=>exact av rfl
structure MF (R:List aj) (ls us:List Nat) (t:Nat) (r:List aj) (O:List Nat):Prop where
 I:aW r
 x:bL R r
 z:r.length≤R.length+1
 m:∀i,i∈O↔i∈ls++us
 l:O.length≤ls.length+us.length
 nd:O.Nodup
 t:O=[t]∨(r[t]? =ac (.j [ae 6,.j (O.map ag)])∧2≤O.length)
section
variable{R:List aj} {J:ar} {ls us:List Nat}
structure zt (R:List aj) (ls us:List Nat) (i:Nat):Prop where
 pt:gR R i [i]
 ok:s4 R i
 no:¬∃j∈ls++us,(j:Int)=mP R i
theorem zD {j:Nat}:¬(j:Int)= -1:=fun h=>(by injection h)
theorem cg.p171 (I:aW R) {i:Nat} {l:aK} (h:cg R i l):zt R ls us i:=by
 refine cE h.at fun r w a b c=> ?_;have g {j:Nat} (f:j<16):i≠j:=fun e=>aR (h.ge I) (jh (e▸f));refine⟨⟨g (aY rfl),av ⟨r,w,a,b,rfl⟩⟩,⟨⟨r,w,a,b⟩,g (aY rfl),g (aY rfl),g (aY rfl),g (aY rfl),g (aY rfl)⟩,fun z=>ay z fun j _ e=> ?_⟩;unfold mP at e;rw[a,nW,←b.wh,c] at e;exact zD e
theorem cq.p171 (I:aW R) (A:∀j∈ls,∃l,cg R j l) {i u:Nat} (h:cq R i u):zt R ls [i] i:=by
 have o:=h.ok I;refine bK o.row fun r w d f=>⟨⟨fun e=>(mJ (h.far I)).n2 (aS k6 e),av ⟨r,w,d,f,rfl⟩⟩,o,fun z=>ay z fun j a e=> ?_⟩;rw[A3 h] at e;have b {x:Nat} (g:x<16) (e:(j:Int)=(x:Nat)):i=x:=(dD.mp a).elim (fun a=>(A j a).elim fun l h=>aR (h.ge I) (jh (dh e▸g))) fun a=>(bW.mp a).symm.trans (dh e);rcases O1 with E|⟨E,c⟩|⟨E,c⟩<;>rw[E] at e
 ·exact zD e
 ·exact c ((b (aY rfl) e▸h).code I.un.2.2.2.1)
 ·exact c ((b (aY rfl) e▸h).code I.un.2.2.1)
theorem OQ (I:aW R) (A:∀j∈ls,∃l,cg R j l) (y:ls≠[]) (o:us=[]∨∃i u,us=[i]∧cq R i u) (B:ls.length≤50) (C:R.length≤900000)
  {G:Prop} (q:∀t f O,aE 4 171 [.l (an 0),.l (.c ((ls++us).map ag))] (aF R::J) (ag t) [] (aF f::J)→MF R ls us t f O→G):G:=by
 have U:us.length≤1:=o.elim (fun h=>h▸cA _) fun z=>bK z fun i u h _=>h▸bv _;have d:∀i∈ls++us,zt R ls us i:=fun i c=>(dD.mp c).elim (fun h=>(A i h).elim fun l h=>h.p171 I) fun h=>by
  rcases o with e|⟨j,u,e,b⟩<;>rw[e] at h⊢
  ·nomatch h
  ·exact List.mem_singleton.mp h▸b.p171 I A
 have H {p:Nat×List Nat} (h:p∈(ls++us).map fun i=>(i,[i])):∃i∈ls++us,p=(i,[i]):=ay (List.mem_map.mp h) fun i c e=>bd i c e.symm;have g:∀j,j∈dx ((ls++us).map fun i=>(i,[i])) []↔j∈ls++us:=fun j=>by
  rw[sn];refine⟨fun h=>h.elim (fun z=>ay z fun p d b=>(ay (H d) fun i c e=> ?_)) (fun h=>nomatch h),fun h=>av ⟨(j,[j]),cr.mpr ⟨j,h,rfl⟩,cU _⟩⟩;have b:=e▸b;exact bW.mp b▸c
 have v:=C1 (R:=R) (J:=J) (H:=(ls++us).map fun i=>(i,[i])) (X:=.c ((ls++us).map ag)) I (av (by rw[eg];rfl)) (fun p h=>ay (H h) fun i c e=>e▸(d i c).pt) (fun p h i E=>by
  refine ay (H h) fun j b e=> ?_;exact bW.mp (e▸E)▸(d j b).ok)
 have n:(dx ((ls++us).map fun i=>(i,[i])) []).Nodup:=B2 h7;generalize dx ((ls++us).map fun i=>(i,[i])) []=k at v g n;have w:k.length≤ls.length+us.length:=by
  rw[←bi];exact n.length_le_of_subset fun j b=>(g j).mp b
 have m:=fun i=>(mC _).mem_iff.trans (g i);have F:fC R k=kv k:=by
  unfold fC;rw[DR];intro i c;rw[cP fun z=>ay z fun j b e=>(d i ((m i).mp c)).no ⟨j,(g j).mp b,e⟩];rfl
 refine((F▸v) (jg w (jg (dd B U) (aY rfl))) (by
  induction s:ls using cn with
  |nil=>exact aR s y
  |cons a r=>exact x0 ((m a).mpr (by rw[s];exact cU _))) (aD C rfl)).elim fun t Z=>qF Z fun f e L x M=> ?_
 exact q t f (kv k) e ⟨L,(oE x).1,(oE x).2,m,ao (a9 (mC _).length_eq) w,(mC _).nodup_iff.mpr n,M.imp (fun h=>h.1) fun h=>⟨h.2,h.1⟩⟩
end
noncomputable def eZ:Nat→Nat
 |0=>1|1=>2|2=>8|3=>32|4=>64|5=>128|6=>7|7=>24|_=>256
noncomputable def bY (k:List Nat):Nat:=k.foldl (fun h u=>h|||eZ u) 0
theorem zF {a b:Nat}:ud (a:Int) (b:Int)=((a|||b:Nat):Int):=by
 rw[Ue,QW (gG _) (gG _)];have:=Ua a b;simp only[py];exact DJ.mpr (aS EU this.symm)
theorem Iv {a b:Nat}:D7 (a:Int) (b:Int)=((a&&&b:Nat):Int):=by
 rw[QW (gG _) (gG _)];simp only[py]
theorem C2 {a b m:Nat}:(a|||b)|||m=m↔a|||m=m∧b|||m=m:=by
 constructor
 ·intro h;have k:=fun i=>by
   have:=aS (fun x=>Nat.testBit x i) h;simpa[yg] using this
  refine⟨RC fun i=> ?_,RC fun i=> ?_⟩<;>
  ·have:=k i;rw[yg]
   revert this
   cases a.testBit i<;>cases b.testBit i<;>cases m.testBit i<;>decide
 ·rintro ⟨c,d⟩;rw[ug,d,c]
theorem Lz {m:Nat} {k:List Nat}:∀{h:Nat},k.foldl (fun h u=>h|||eZ u) h|||m=m↔h|||m=m∧∀u∈k,eZ u|||m=m:=by
 induction k with
 |nil=>exact(and_iff_left fun _ h=>nomatch h).symm
 |cons u k i=>intro h;rw[t_,i,C2,pp,and_assoc]
theorem qo {k:List Nat} {m:Nat}:bY k|||m=m↔∀u∈k,eZ u|||m=m:=by
 unfold bY;rw[Lz];simp
theorem HF {m:Nat}:m|||m=m:=Nat.or_self m
theorem lA {k:List Nat} {u:Nat} (h:u∈k):eZ u|||bY k=bY k:=qo.mp HF u h
theorem p4 {a b c:Nat} (h:a|||b=b) (h':b|||c=c):a|||c=c:=by rw[←h',←Nat.or_assoc,h]
theorem zy {a b:Nat} (h:a|||b=b) (h':b|||a=a):a=b:=by rw[←h',EJ,h]
theorem GO {i:Nat} {k:List Nat}:∀{h:Nat},(k.foldl (fun h u=>h|||eZ u) h).testBit i=af→h.testBit i=af∨∃u∈k,(eZ u).testBit i=true:=by
 induction k with
 |nil=>exact av
 |cons u k I=>
  refine fun e=>(I e).elim (fun e=> ?_) fun e=>aI (e.imp fun v h=>⟨e9 _ h.1,h.2⟩);rw[yg,dK] at e;exact e.imp id fun e=>bd u (cU _) e
noncomputable def C5:Nat→Nat
 |0=>0|1=>1|2=>3|3=>5|4=>6|5=>7|6=>2|7=>4|_=>8
theorem Bz:∀u,u<9→∀v,v<9→((eZ v).testBit (C5 u)=af↔v=u∨(v=6∧(u=0∨u=1))∨(v=7∧u=2)):=by decide
theorem qI {k k':List Nat} (h:∀u∈k,u<9) (h':∀u∈k',u<9):bY k|||bY k'=bY k'↔cz k k'=true:=by
 rw[qo];unfold cz;rw[List.all_eq_true];refine forall_congr' fun u=>forall_congr' fun c=> ?_;rw[dK,ee];constructor
 ·intro e;have b:(bY k').testBit (C5 u)=true:=by
   rw[←e,yg,(Bz u (h u c) u (h u c)).mpr (av rfl),Bool.true_or]
  rcases GO b with e|⟨v,a,f⟩
  ·simp at e
  ·rcases(Bz u (h u c) v (h' v a)).mp f with rfl|⟨rfl,rfl|rfl⟩|⟨rfl,rfl⟩
   ·exact .inl a
   ·right;unfold ci;simp[a]
   ·right;unfold ci;simp[a]
   ·right;unfold ci;simp[a]
 ·rintro (e|e)
  ·exact lA e
  ·unfold ci at e;simp only[dK,fu,dL,ee] at e;rcases e with⟨rfl|rfl,d⟩|⟨rfl,g⟩
   ·exact p4 (by decide) (lA d)
   ·exact p4 (by decide) (lA d)
   ·exact p4 (by decide) (lA g)
theorem Bx {k l:List Nat}:bY (k++l)=bY k|||bY l:=by
 refine zy (qo.mpr fun u h=> ?_) (C2.mpr ⟨qo.mpr fun u h=>lA (by simp[h]),qo.mpr fun u h=>lA (by simp[h])⟩);rcases List.mem_append.mp h with h|h
 ·exact p4 (lA h) (by rw[←Nat.or_assoc,Nat.or_self])
 ·exact p4 (lA h) (by rw[Nat.or_comm (bY k),←Nat.or_assoc,Nat.or_self])
theorem CE {k:List Nat} (h:∀u∈k,u<9):bY (cM k)=bY k:=by
 have n:∀u∈cM k,u<9:=fun u a=>(fp.mp a).1;have s:∀{u},ci (cM k) u=ci k u:=fun{u}=>by
  have c:(cM k).contains 6=k.contains 6:=by rw[ji,ee,ee,fp];simp[ci]
  have d:(cM k).contains 7=k.contains 7:=by rw[ji,ee,ee,fp];simp[ci]
  unfold ci;rw[c,d]
 refine zy ((qI n h).mpr (cH.mpr fun u a=> ?_)) ((qI h n).mpr (cH.mpr fun u a=> ?_))
 ·rw[dK];exact av (ee.mpr (fp.mp a).2.1)
 ·rw[dK,s,ee,fp];induction b:ci k u with
  |true=>exact aI rfl
  |false=>exact av (fe (h u a) a rfl)
theorem xb {k k':List Nat} (h:gi k) (h':gi k') (e:bY k=bY k'):k=k':=by
 have s:=(qI h.2.2.1 h'.2.2.1).mp (by rw[e,ul]);have S:=(qI h'.2.2.1 h.2.2.1).mp (by rw[e,ul]);have y:∀{k k':List Nat},gi k→cz k k'=af→cz k' k=af→∀u∈k,u∈k':=fun{k k'} h s S u a=>by
  have:=cH.mp s u a;rw[dK,ee] at this;refine this.elim id fun e=> ?_;have U:∀w,w∈k'→(w=6∨w=7)→w∈k:=fun w c d=>by
   have:=cH.mp S w c;rw[dK,ee] at this;refine this.elim id fun e=> ?_;rcases d with rfl|rfl<;>simp[ci] at e
  unfold ci at e;simp only[Bool.or_eq_true,Bool.and_eq_true,beq_iff_eq,List.contains_iff_mem] at e;rcases e with⟨rfl|rfl,b⟩|⟨rfl,f⟩
  ·exact absurd a (h.2.2.2.1 (U 6 b (.inl rfl))).1
  ·exact absurd a (h.2.2.2.1 (U 6 b (.inl rfl))).2
  ·exact absurd a (h.2.2.2.2 (U 7 f (.inr rfl)))
 exact oI h.2.1 h'.2.1 fun x=>⟨y h s S x,y h' S s x⟩
theorem MN (u:Nat):eZ u≠0:=by
 rcases u with _|_|_|_|_|_|_|_|u<;>exact Nat.succ_ne_zero _
theorem IE {k:List Nat} (h:gi k):0<bY k:=by
 obtain⟨u,b⟩:=nS k h.1;have a:=lA b;refine x2 fun e=> ?_;rw[e,S2] at a;exact aR a (MN u)
theorem IH {a b c:Nat}:(a|||b)&&&c=0↔a&&&c=0∧b&&&c=0:=by
 rw[Nat.and_or_distrib_right];constructor
 ·intro h;have:∀x y:Nat,x|||y=0→x=0:=fun x y h=>by
   have d:=Nat.left_le_or (n:=x) (m:=y);exact e8 (cD (.c 1 .b .n0 (.c 1 .f .b (.g 1 .f .n0))) rfl (a9 h) d) (dN (.g 1 .n0 .b) rfl)
  exact⟨this _ _ h,this _ _ (by rw[EJ];exact h)⟩
 ·rintro ⟨e,d⟩;rw[e,d];rfl
theorem Ae {k:List Nat} (h:∀u∈k,u<9):bY k&&&20=0↔k.all gY=true:=by
 have y:∀(k:List Nat) (a:Nat),(k.foldl (fun h u=>h|||eZ u) a)&&&20=0↔a&&&20=0∧∀u∈k,eZ u&&&20=0:=by
  intro k;induction k with
  |nil=>intro a;simp
  |cons u k i=>intro a;rw[t_,i,IH];simp[and_assoc]
 unfold bY;rw[y,cH];have o:∀u,u<9→(eZ u&&&20=0↔gY u=af):=by decide
 exact⟨fun c u b=>(o u (h u b)).mp (c.2 u b),fun c=>⟨rfl,fun u b=>(o u (h u b)).mpr (c u b)⟩⟩
set_option genInjectivity true in
structure LB where
 hs:List Nat
 os:List Nat
 rs:List Nat
 ts:List Nat
 c:Nat
noncomputable def a_ (a:aK):LB:=⟨a.hs.map bY,a.os.map (fun k=>bY k|||256),a.rs.map bY,a.ts.map bY,a.c⟩
noncomputable def kb (b:LB):aj:=.j [a5 b.hs,a5 b.os,a5 b.rs,a5 b.ts,ag b.c]
theorem Qz {k:List Nat} {u:Nat}:bY (k++[u])=bY k|||eZ u:=by unfold bY;refine ak List.foldl_append ?_;rfl
theorem Cu {a b:Nat}:Nv iw (ag a) (ag b)=ac (ag (a|||b)):=by
 show ac (ae (ud a b))=_;refine ak zF ?_;rfl
theorem AX {a b:Nat}:eJ iw (ag a) (ag b)=ac (ag (a|||b)):=by
 show ac (ae (ud a b))=_;refine ak zF ?_;rfl
theorem e0.a {k:List Nat} (h:e0 k):∀u∈k,u<8:=fun _=>h.lt
theorem QC {k:List Nat} {Y:ar} (h:∀u∈k,u<8):aE 1 285 [.l (a5 k)] Y (ag (bY k)) [] Y:=zo.of _ _ fun n f=>by
 obtain⟨x,_,l⟩:=hm (n:=n) (g:=285) (b:=ah) [1] ag k (fun d (_:Unit)=>[(76,.l (a5 k)),(17,.l (ag (bY d)))]) (fun _ _=>Y) (fun _ _=>True) () trivial rfl fun a j r x e _=>⟨(),a',trivial,av rfl,by
  have G:eA (.j [ae 1,ae 2,ae 8,ae 32,ae 64,ae 128,ae 7,ae 24]) (ag j)=ac (ag (eZ j)):=
   w3 (P:=fun j=>eA (.j [ae 1,ae 2,ae 8,ae 32,ae 64,ae 128,ae 7,ae 24]) (ag j)=ac (ag (eZ j))) rfl rfl rfl rfl rfl rfl rfl rfl (h j (eO e))
  have c:(vW.B iw (ag (bY a)) (ag (eZ j))).e=ac (ag (bY a|||eZ j)):=Cu;refine ak Qz ?_;exact bq 0 [.get G,.B c],rfl⟩
 exact aw 0 [.sub l]
theorem tv {a:aK} {Y:ar} (d:∀k∈bm a,e0 k) (o:(bm a).length≤100):aE 2 286 [.l (bM a)] Y (kb (a_ a)) [] Y:=zo.of _ _ fun n p=>by
 have l {q:Type} {g:List (List Nat)} {f:List Nat→q} (h:g.length≤(bm a).length):(g.map f).length≤b4:=by rw[aB];exact ao h (aD o rfl)
 have c:=fI (n:=n) (g:=286) [0] 0 59 dZ [a.hs,a.os,a.rs,a.ts] (fun g=>[a5 (g.map bY)]) [(20,.l (bM a))] Y fun g j=>by
  have j:(∀k∈g,e0 k)∧g.length≤(bm a).length:=by
   rw[gT];unfold bm at d
   revert g
   simp only[pp,kh,false_implies,implies_true,and_true];rw[DD,DD,DD] at d;refine⟨⟨d.1.1.1,b8 (.g 1 .b (.a (.a (.a .b .f) .g) .j)) rfl⟩,⟨d.1.1.2,b8 (.g 1 .b (.a (.a (.a .f .b) .g) .j)) rfl⟩,⟨d.1.2,b8 (.g 1 .b (.a (.a (.a .f .g) .b) .j)) rfl⟩,⟨d.2,b8 (.g 1 .b (.a (.a (.a .f .g) .j) .b)) rfl⟩⟩
  have c:=fI (g:=286) [0] 1 58 a5 g (fun k=>[ag (bY k)]) [(20,.l (bM a)),(87,.l (dZ g))] Y fun k r=>by
   exact cZ 0 [.call (QC (Y:=Y) (j.1 k r).a n (bl p rfl))]
  rw[←kd,show g.map (fun k=>ag (bY k))=(g.map bY).map ag from(eg (g:=ag) ..).symm] at c;exact cZ 0 [.le (l (f:=a5) j.2),.sub c]
 have C:=fI (n:=n) (g:=286) [1] 0 57 ag (a.os.map bY) (fun m=>[ag (m|||256)]) [(20,.l (bM a)),(86,bE (.c ([a.hs,a.os,a.rs,a.ts].map fun g=>a5 (g.map bY))))] Y fun m _=>by
  exact cZ 0 [.w (AX (a:=m) (b:=256))]
 rw[←kd] at c C;have i:((a.os.map bY).map ag).length≤b4:=by rw[aB];exact l (by rw[gT];exact b8 (.g 1 .b (.a (.a (.a .f .b) .g) .j)) rfl)
 have e:(a.os.map bY).map (fun m=>ag (m|||256))=(a.os.map fun k=>bY k|||256).map ag:=by rw[eg,eg];rfl
 rw[e] at C;exact aw 34 [.sub c,.le i,.sub C]
theorem s1 (h:e0 k):bY (cM (k++[8]))=bY k|||256:=by
 rw[CE fun u a=>(List.mem_append.mp a).elim (h.1.2.2.1 u) fun e=>List.mem_singleton.mp e▸(by decide),Bx];rfl
theorem xD (h:l=(cv n).map f) (a:L=(cv N).map fun i=>f (n+i)):l++L=(cv (n+N)).map f:=by
 rw[List.range_add,cd,eg,h,a];rfl
theorem tq (b:l.length=n) (h:∀i x,i<n→l[i]? =ac x→x=g i):l=(cv n).map g:=x5 fun i=>by
 rw[dX];by_cases a:i<n
 ·have e:=cS (b▸a);rw[tZ a,e,h i _ a e];rfl
 ·have a:=dC a;rw[po (b▸a),po (by rw[gm];exact a)];rfl
noncomputable def iV (a:aK) (m:Nat):List Nat:=by classical exact if a.let m then(cv m).map (fun p=>bY (a.slot m p)) else[]
theorem vN {l:List a} {i:Nat} (h:(l.map f)[i]? =ac x):∃y,l[i]? =ac y∧f y=x:=dg.mp (dX▸h)
theorem Lc (o:a.Ok) {e:Nat} (g:m=a.hs.length+a.ts.length+e) (h:a.rs≠[]∨e≤a.os.length):
  (a_ a).hs++(a_ a).os.take e++(cx (e-a.os.length) (a_ a).rs).flatten++(a_ a).ts=(cv m).map (fun p=>bY (a.slot m p)):=by
 have l:(cx (e-a.os.length) (a_ a).rs).flatten=cx (e-a.os.length) (bY ((a.rs[0]?).getD [])):=by
  rcases h with h|h
  ·have b:=o.rs;unfold a_;generalize a.rs=r at h b;induction r using List.casesOn with
   |nil=>exact aR rfl h
   |cons x r=>
    induction r using cn with
    |nil=>exact List.flatten_replicate_singleton
    |cons y r=>exact aR b (jh (D' (m3 _)))
  ·rw[tX h];rfl
 have t:=o.alt.imp fs.mpr fs.mpr;rw[l,show(cv m).map (fun p=>bY (a.slot m p))=(cv (a.hs.length+hF e a.os.length+(e-a.os.length)+a.ts.length)).map fun p=>bY (a.slot m p) by rw[g,ev _ (hF _ _),f_ (hF _ _),Nat.sub_add_min_cancel,t0]];refine xD (xD (xD (tq (aB _) fun i x d c=> ?_) (tq (by rw[nX,show(a_ a).os.length=a.os.length from aB _]) fun i x d c=> ?_)) (tq kX fun i x d c=> ?_)) (tq (aB _) fun i x d c=> ?_)<;>unfold aK.slot
 ·refine ay (vN c) fun y b f=> ?_;rw[aJ d,b];exact f.symm
 ·have k:=ft d (nY _ _);rw[Rb (ft d (yc _ _))] at c;refine ay (vN c) fun y b f=> ?_;rw[aL (e7 (bu _ _)),aJ (Nat.add_lt_add_left k _),Dy,b,nW,s1 (o.nk _ (cG _ (cG _ (eD _ (eR b)))))];exact f.symm
 ·have j:=x' (gJ (Nat.lt_of_sub_pos (jg (cA _) d)));refine ak j (ak (aL (e7 (ao (bu _ _) (bu _ _)))) (ak (aL (e7 (bu _ _))) ?_));refine ak (aL (by clear t;exact jh (lB (.c 1 (.a (.a .b .f) .g) .j (.c 1 (.a .l .n1) .o (.c 1 (.a .o .p) .g (.g 1 (.a (.a (.a (.a .b .p) .l) .f) .n1) .j)))) rfl (a9 (cB g)) d (a9 (fi (show a.os.length≤e from b6 (.c 1 .b .f (.c 1 .f .g (.g 1 .b .g))) rfl (a9 (cB j)) (yc (e) (a.os.length)))))))) ?_;exact(Rc (eR c))
 ·refine ay (vN c) fun y b f=> ?_;rw[(t.resolve_right fun h=>rn i (h▸d)),Nat.min_zero,EC,Ew,aL (e7 (ao (bu _ _) (bu _ _))),aL (e7 (ao (bu _ _) (bu _ _))),aJ (by rw[g];clear t c b;exact b8 (.g 1 (.a (.a .b .f) .g) (.a (.a (.a .b .g) .j) .f)) rfl),show a.hs.length+e+i+a.ts.length-m=i by rw[g];clear t c b;exact e8 (e6 (.c 1 (.a .b (.a (.a .f .g) .j)) (.a (.a (.a .f .j) .l) .g) (.g 1 .b .l)) rfl (a9 (fi (show a.hs.length+a.ts.length+e≤a.hs.length+e+i+a.ts.length from b8 (.g 1 (.a (.a .b .f) .g) (.a (.a (.a .b .g) .j) .f)) rfl)))) (e6 (.c 1 (.a (.a (.a .b .f) .g) .j) (.a .l (.a (.a .b .j) .f)) (.g 1 .g .l)) rfl (g3.mp (bv (a.hs.length+e+i+a.ts.length-(a.hs.length+a.ts.length+e))))),b];exact f.symm
theorem vU {a:Nat}:f7 ah (ac (a:Int)) (.c l)=ac (.c (l.take a)):=by
 by_cases h:a≤l.length
 ·exact xr h
 ·have h:=Nat.le_of_not_le h;show ac (aj.c ((l.take (if(0:Int)≤(a:Int) then hF (a:Int).toNat l.length else((a:Int)+l.length).toNat)).drop 0))=_
  rw[aJ (gG a),py,x' h,DA (bv _),DA h];rfl
theorem Nc (h: -1000≤x) (a:x≤1000) (b:l.length≤1000):eJ oo (a5 l) (ae x)=ac (a5 (cx x.toNat l).flatten):=by
 show(if-1000≤x∧x≤1000∧(l.map ag).length≤1000 then ac (aj.c (cx x.toNat (l.map ag)).flatten) else ah)=_
 rw[aJ (fe h a (by rw[aB];exact b))];unfold a5;rw[List.map_flatten,DU]
theorem oJ (h:l.length+m.length≤1000000):eJ b9 (a5 l) (a5 m)=ac (a5 (l++m)):=ny h
theorem ez {g:List (List Nat)}:((g.map f).map ag).length=g.length:=by rw[aB,aB]
noncomputable def j1 (a:aK) (m:Nat):Int:=(m:Int)-a.hs.length-a.ts.length
theorem Cj {a:aK} {m:Nat} (o:a.Ok) (j:(bm a).length≤50) (A:m≤100):aE 1 287 [.l (kb (a_ a)),.l (ag m)] Y (a5 (iV a m)) [] Y:=zo.of _ _ fun n B=>by
 have j:=gT▸j;have s:a.hs.length≤16777216:=b8 (.c 1 (.a (.a (.a .b .f) .g) .j) (.n 50) (.g 1 .b (.n 16777216))) rfl j;have L:a.os.length≤16777216:=b8 (.c 1 (.a (.a (.a .b .f) .g) .j) (.n 50) (.g 1 .f (.n 16777216))) rfl j;have r:a.rs.length≤16777216:=b8 (.c 1 (.a (.a (.a .b .f) .g) .j) (.n 50) (.g 1 .g (.n 16777216))) rfl j;have t:a.ts.length≤16777216:=b8 (.c 1 (.a (.a (.a .b .f) .g) .j) (.n 50) (.g 1 .j (.n 16777216))) rfl j;have F:j1 a m=(m:Int)-a.hs.length-a.ts.length:=rfl;have w:=o.rs;have N (h:¬a.let m):a5 (iV a m)=.c []:=by
  unfold iV;refine ak (aL h) ?_;rfl
 by_cases p:j1 a m<0
 ·refine ak (N fun h=>hD.mpr (Eg.mpr (Rd (gq.mpr h.1))) p) ?_;exact aw 272 [.p (ds:=(a_ a).hs.map ag) ez s,.p (ds:=(a_ a).ts.map ag) ez t,.S p]
 ·have⟨e,q⟩:∃e:Nat,j1 a m=e:=⟨(j1 a m).toNat,(DS (hD.mp p)).symm⟩;have b:(a.os.length:Int)<j1 a m→(a.rs.length==0)=af→a5 (iV a m)=.c []:=fun i k=>N fun h=>h.2.elim (fun h=>h (fs.mp (dL.mp k))) fun h=>hD.mpr (xT (xT (gq.mpr (b8 (.c 1 .b (.a (.a .f .g) .j) (.g 1 .b (.a (.a .g .j) .f))) rfl h)))) i;have u:m=a.hs.length+a.ts.length+e:=(dh (DJ.mp (DJ.mp q))).trans (by rw[f_,f_ e,ev]);have E:e≤100:=ao (ao (gH e _) (a9 u.symm)) A;have g (k:(a.os.length:Int)<j1 a m→(a.rs.length==0)=ai):iV a m=(a_ a).hs++(a_ a).os.take e++(cx (e-a.os.length) (a_ a).rs).flatten++(a_ a).ts:=by
   have y:a.rs≠[]∨e≤a.os.length:=by
    by_cases i:(a.os.length:Int)<j1 a m
    ·exact av fun h=>aR (k i) (by refine ak h ?_;decide)
    ·exact aI (gq.mp (q▸hD.mp i))
   unfold iV;rw[Lc o u y,aJ ⟨u▸bu _ _,y.imp id fun h=>e6 (.c 1 .b (.a (.a .f .g) .j) (.c 1 .j .l (.g 1 .b (.a (.a .f .l) .g)))) rfl (a9 u) h⟩]
  have f:(cx (e-a.os.length) (a_ a).rs).flatten.length≤100:=by
   rw[RF,DU,Rk];exact ao (fh _ (ao (a9 (aB _)) w)) (ao (a9 (lR _)) (ao (it ..) E))
  have T:((a_ a).os.take e).length≤50:=by rw[nX,show(a_ a).os.length=a.os.length from aB _];exact e6 (.c 1 (.a (.a (.a .b .f) .g) .j) (.n 50) (.c 1 .l .f (.g 1 .l (.n 50)))) rfl j (nY (e) (a.os.length))
  have v:(a_ a).hs.length+(a_ a).ts.length≤50:=by rw[show(a_ a).hs.length=a.hs.length from aB _,show(a_ a).ts.length=a.ts.length from aB _];exact b8 (.c 1 (.a (.a (.a .b .f) .g) .j) (.n 50) (.g 1 (.a .b .j) (.n 50))) rfl j
  have C:f7 ah (ac (j1 a m)) (.c ((a_ a).os.map ag))=ac (a5 ((a_ a).os.take e)):=by
   rw[q];exact vU.trans (by unfold a5;rw[rq])
  have c:=Nc (l:=(a_ a).rs) (x:=j1 a m-a.os.length) (Rd (lQ (RJ (gq.mpr (b8 (.c 1 (.a (.a (.a .b .f) .g) .j) (.n 50) (.g 1 .f (.n 1000))) rfl j))) (hD.mp p))) (lQ (Int.sub_le_self _ (gG _)) (q▸gq.mpr (aD E rfl))) (ao (a9 (aB _)) (aD w rfl));have c:=(show(j1 a m-a.os.length).toNat=e-a.os.length from q▸rr e _)▸c;have d:=oJ (l:=(a_ a).hs) (m:=(a_ a).os.take e) (b6 (.c 1 .b (.n 50) (.c 1 (.a .f .g) (.n 50) (.g 1 (.a .f .b) (.n 1000000)))) rfl T v);have D:=oJ (l:=(a_ a).hs++(a_ a).os.take e) (m:=(cx (e-a.os.length) (a_ a).rs).flatten) (by refine ak bi ?_;exact b8 (.c 1 .b (.n 100) (.c 1 .f (.n 50) (.c 1 (.a .g .j) (.n 50) (.g 1 (.a (.a .g .f) .b) (.n 1000000))))) rfl f T v);have z:=oJ (l:=(a_ a).hs++(a_ a).os.take e++(cx (e-a.os.length) (a_ a).rs).flatten) (m:=(a_ a).ts) (by refine ak bi (ak bi ?_);exact b8 (.c 1 .b (.n 100) (.c 1 .f (.n 50) (.c 1 (.a .g .j) (.n 50) (.g 1 (.a (.a (.a .g .f) .b) .j) (.n 1000000))))) rfl f T v);by_cases i:(a.os.length:Int)<j1 a m
  ·induction k:(a.rs.length==0) with
   |true=>
    refine ak (b i k) ?_;exact aw 272 [.p (ds:=(a_ a).hs.map ag) ez s,.p (ds:=(a_ a).ts.map ag) ez t,.H p,.p (ds:=(a_ a).os.map ag) ez L,.P i,.p (ds:=(a_ a).rs.map ag) ez r,.x k]
   |false=>
    refine ak (g fun _=>k) ?_;exact aw 1099511628048 [.p (ds:=(a_ a).hs.map ag) ez s,.p (ds:=(a_ a).ts.map ag) ez t,.H p,.p (ds:=(a_ a).os.map ag) ez L,.P i,.p (ds:=(a_ a).rs.map ag) ez r,.x k,.cut C,.w d,.p (ds:=(a_ a).os.map ag) ez L,.w c,.w D,.w z]
  ·refine ak (g fun h=>aR h i) ?_;exact aw 4294967568 [.p (ds:=(a_ a).hs.map ag) ez s,.p (ds:=(a_ a).ts.map ag) ez t,.H p,.p (ds:=(a_ a).os.map ag) ez L,.Q i,.cut C,.w d,.p (ds:=(a_ a).os.map ag) ez L,.w c,.w D,.w z]
theorem CN {a:aK} (o:a.Ok):∀u∈a.slot m p,u<9:=by
 have G {g:List (List Nat)} {i:Nat} (c:g.Subset (bm a)):∀u∈(g[i]?).getD [],u<9:=fun u b=>by
  induction h:g[i]?with
  |none=>rw[h] at b;nomatch b
  |some k=>rw[h] at b;exact(o.nk k (c (eR h))).1.2.2.1 u b
 unfold aK.slot;split
 ·exact G fun _ h=>cG _ (cG _ (cG _ h))
 ·split
  ·exact fun u b=>(fp.mp b).1
  ·split
   ·exact G fun _ h=>eD _ h
   ·exact G fun _ h=>cG _ (eD _ h)
noncomputable def ek (a b:aK):Bool:=by classical exact aM (db a b)
theorem ne:ek a b=af↔db a b:=by unfold ek;simp
theorem MP (h:¬db a b):ek a b=false:=by rw[nV,Ne,ne];exact h
noncomputable def fW (a b:aK):Nat:=1+max a.fr b.fr+max a.ts.length b.ts.length
theorem QF (o:a.Ok) (k:b.Ok) (d:1≤a.hs.length) (m:a.c≤b.c) (h:∀n,1≤n→n≤fW a b→a.let n→b.let n∧∀p,p<n→cz (a.slot n p) (b.slot n p)=af):db a b:=by
 have t:=fun n c=>by
  by_cases l:n≤fW a b
  ·exact(h n (by unfold aK.let at c;exact b6 (.c 1 .n1 .b (.c 1 (.a .b .f) .g (.g 1 .n1 .g))) rfl d c.1) l c).1
  ·have f:a.rs≠[]:=fun e=>by
    have:a.ts.length=0:=by refine ak (gl fun h=>o.ts h e) ?_;rfl
    rcases c.2 with h|h
    ·exact h e
    ·unfold fW aK.fr at l;exact Nat.not_succ_le_zero 0 (jR (.c 1 (.a (.a (.a .n1 .b) .f) .n1) .g (.c 1 .j .n0 (.c 1 .g (.a (.a .l .o) .j) (.c 1 (.a .l .o) .b (.g 2 .n1 .n0))))) rfl (Nat.lt_of_not_le l) (Nat.le_of_eq this) h (Nat.le_max_left (a.hs.length+a.os.length) (b.hs.length+b.os.length)))
   have g:=(h (a.hs.length+a.ts.length) (by exact cD (.c 1 .n1 .b (.g 1 .n1 (.a .b .f))) rfl d) (by unfold fW aK.fr;exact e6 (.c 1 (.a .b .f) .g (.c 1 .j .l (.g 1 (.a .b .j) (.a (.a .n1 .g) .l)))) rfl (Nat.le_max_left (a.hs.length+a.os.length) (b.hs.length+b.os.length)) (Nat.le_max_left (a.ts.length) (b.ts.length))) ⟨Nat.le_refl _,.inl f⟩).1;refine⟨by unfold aK.let at g;unfold fW aK.fr at l;exact e6 (.c 1 (.a .b .f) .g (.c 1 (.a .j .l) (.a .b .f) (.g 1 (.a .j .l) .g))) rfl c.1 g.1,.inl ?_⟩
   rcases((h (fW a b) (by unfold fW;exact cD (.g 1 .n1 (.a (.a .n1 .b) .f)) rfl) (Nat.le_refl _) ⟨by unfold fW aK.fr;exact e6 (.c 1 (.a .b .f) .g (.c 1 .j .l (.g 1 (.a .b .j) (.a (.a .n1 .g) .l)))) rfl (Nat.le_max_left (a.hs.length+a.os.length) (b.hs.length+b.os.length)) (Nat.le_max_left (a.ts.length) (b.ts.length)),.inl f⟩).1).2 with h|h
   ·exact h
   ·exact(Nat.not_le_of_lt (Nat.lt_of_lt_of_le (Nat.lt_add_of_pos_left (aY rfl)) (Nat.le_trans (Nat.le_of_eq (Nat.add_assoc ..).symm) (Nat.add_le_add (Nat.add_le_add_left (Nat.le_max_right a.fr b.fr) 1) (Nat.le_max_right a.ts.length b.ts.length)))) h).elim
 exact⟨m,fun n c=>⟨t n c,(BW o k (by unfold fW;exact cD (.g 1 (.a (.a .b .f) .n1) (.a (.a .n1 .b) .f)) rfl) (fun _=>by unfold fW;exact b6 (.c 1 .b .f (.g 1 .b (.a (.a .n1 .f) .g))) rfl (Nat.le_max_left (a.fr) (b.fr))) t (fun n c i p j=>(h n (by unfold aK.let at i;exact cD (.c 1 (.a .b .n1) .f (.g 1 .n1 .f)) rfl j) c i).2 p j)) n c⟩⟩
theorem Cz:(vW.c (ag x) (ag y)).e=ac (ag (max x y)):=by
 show ac (ae (if(x:Int)<(y:Int) then(y:Int) else x))=ac (ae (max x y:Nat))
 by_cases h:x<y
 ·rw[aJ (g5.mpr h),Nat.max_eq_right (gJ h)]
 ·rw[aL fun a=>h (g5.mp a),Nat.max_eq_left (dC h)]
noncomputable def q8 (a b:aK):au:=[(93,.l (kb (a_ a))),(94,.l (kb (a_ b))),(24,.l (ag (fW a b)))]
noncomputable def Db (a b:aK) (m:Nat) (A B:List Nat):au:=q8 a b++[(65,.l (ag m)),(68,.l (a5 A)),(69,.l (a5 B))]
theorem Cc (d:Nat→Bool) (h:∀p,p<k→∃x y,A[p]? =ac x∧B[p]? =ac y∧d p= !((x|||y)==y)):
  cc bw (aZ n) (dS 288 [2,3] ah ((cv k).map ag) (Db a b m A B) Y) (qV (if(cv k).any d then ac (aA ai) else ah)) (Db a b m A B) Y:=by
 rw[←rU];refine ma [2,3] ag (cv k) (fun p=>if d p then ac (aA ai) else ah) _ Y rfl rfl fun p f=>cE (h p (hB.mp f)) fun x y i j l=> ?_
 have G:eA (.c (A.map ag)) (ag p)=ac (ag x):=dH (by rw[dX,i];rfl);have g:eA (.c (B.map ag)) (ag p)=ac (ag y):=dH (by refine ak (dX) (ak j ?_);rfl);have e:=AX (a:=x) (b:=y);refine ak l ?_;induction c:((x|||y)==y) with
 |true=>exact bq 0 [.get G,.get g,.w e,.get g,.M c]
 |false=>exact bq 0 [.get G,.get g,.w e,.get g,.M c]
noncomputable def nJ (a b:aK) (m:Nat):Bool:=by classical exact aM (a.let m)&& !(aM (b.let m)&&(cv m).all fun p=>cz (a.slot m p) (b.slot m p))
theorem A4 (h:a.let m):(iV a m).length=m∧∀p,p<m→(iV a m)[p]? =ac (bY (a.slot m p)):=by
 unfold iV;refine ak (aJ h) ?_;exact⟨by rw[aB,gm],fun p b=>by rw[dX,tZ b];rfl⟩
theorem BB (h:¬a.let m):iV a m=[]:=by unfold iV;rw[aL h]
theorem Km {n:Nat} (g:1≤n) (o:a.Ok) (i:b.Ok) (u:(bm a).length≤20) (v:(bm b).length≤20) (j:1≤m) (M:m≤50):
  ff n 288 [2] (hn (q8 a b)) (ag m) (q8 a b) Y (qV (if nJ a b m then ac (aA ai) else ah)) (q8 a b) Y:=by
 classical
 have c:=Cj (Y:=Y) o (aD u rfl) (aD M rfl) n g;have C:=Cj (Y:=Y) i (aD v rfl) (aD M rfl) n g;have l:m≤16777216:=aD M rfl;have q:m≤100000:=aD M rfl;unfold nJ;by_cases h:a.let m
 ·refine(A4 h).elim fun w y=> ?_;rw[cu h,Eh];have k:=cu j;have z:((iV a m).map ag).length=m:=by rw[aB,w]
  by_cases d:b.let m
  ·refine(A4 d).elim fun x D=> ?_;rw[cu d,Eh,List.not_all_eq_any_not];have Z:((iV b m).map ag).length=m:=by rw[aB,x]
   have t:=c5.mpr (lP j);have L:=Cc (n:=n) (m:=m) (a:=a) (b:=b) (Y:=Y) (fun p=> !cz (a.slot m p) (b.slot m p)) fun p f=>⟨_,_,y p f,D p f,by
    have:=qI (CN (m:=m) (p:=p) o) (CN (m:=m) (p:=p) i);induction s:cz (a.slot m p) (b.slot m p) with
    |true=>exact(aS not (dL.mpr (this.mpr s))).symm
    |false=>exact(aS not (c5.mpr fun e=>by rw[this.mp e] at s;nomatch s)).symm⟩
   rw[←jN] at L;generalize(cv m).any (fun p=> !cz (a.slot m p) (b.slot m p))=r at L;induction r with
   |true=>exact bq 0 [.call c,.call C,.p z l,.y k,.p Z l,.x t,.p z l,.le q,.sub L]
   |false=>exact bq 0 [.call c,.call C,.p z l,.y k,.p Z l,.x t,.p z l,.le q,.sub L]
  ·have C:=BB d▸C;rw[cP d];exact bq 0 [.call c,.call C,.p z l,.y k]
 ·have c:=BB h▸c;rw[cP h,yf];exact bq 1024 [.call c,.call C,.sub (Cc (n:=n) (m:=m) (a:=a) (b:=b) (A:=[]) (B:=iV b m) (Y:=Y) (fun _=>ai) fun p f=>aR f (rn p))]
theorem Ap (h:(bm a).length≤20):a.fr≤20∧a.ts.length≤20:=by
 rw[gT] at h;exact⟨ao (ao (bu _ _) (bu _ _)) h,ao (gH _ _) h⟩
theorem HY (o:a.Ok) (j:b.Ok) (G:1≤a.hs.length) (l:(bm a).length≤20) (L:(bm b).length≤20):aE 2 288 [.l (kb (a_ a)),.l (kb (a_ b))] Y (aA (ek a b)) [] Y:=zo.of _ _ fun n I=>by
 classical
 have t:fW a b≤50:=by
  have X:=Ap l;have q:=Ap L;exact ao (dd (cj (yr.mpr ⟨X.1,q.1⟩) 1) (yr.mpr ⟨X.2,q.2⟩)) (aY rfl)
 have E:f4 1 ((fW a b:Int)+1)=((cv (fW a b)).map (1+·)).map ag:=CC 1 (fW a b);have s:∀m∈(cv (fW a b)).map (1+·),1≤m∧m≤fW a b:=fun m h=>by
  exact ay (cr.mp h) fun i N e=>e▸⟨bu 1 i,f_ 1 i▸hB.mp N⟩
 have f:=ma (b:=ah) [2] ag ((cv (fW a b)).map (1+·)) (fun m=>if nJ a b m then ac (aA ai) else ah) (q8 a b) Y rfl rfl fun m h=>Km I o j l L (s m h).1 (ao (s m h).2 t)
 rw[rU,←E] at f;induction c:aM (b.c<a.c) with
 |true=>
  refine ak (MP fun h=>aR h.1 (jh (dB c))) ?_;exact aw 2 [.y c]
 |false=>
  have e:ek a b= !((cv (fW a b)).map (1+·)).any (nJ a b):=by
   rw[List.not_any_eq_all_not,ji,ne,cH];have k {m:Nat}:(!nJ a b m)=af↔(a.let m→b.let m∧∀p,p<m→cz (a.slot m p) (b.slot m p)=af):=by
    unfold nJ;rw[x6,Bool.and_eq_false_imp,k0,Bool.not_eq_false',fu,k0,cH];exact⟨fun h d=>⟨(h d).1,fun p g=>(h d).2 p (hB.mpr g)⟩,fun h d=>⟨(h d).1,fun p g=>(h d).2 p (hB.mp g)⟩⟩
   refine⟨fun h m _=>k.mpr (h.2 m),fun h=>QF o j G (dC (rl c)) fun m M P=>k.mp (h m (cr.mpr ⟨m-1,hB.mpr (Nat.sub_one_lt_of_le M P),Nat.add_sub_of_le M⟩))⟩
  refine ak e ?_;have u:1+(fW a b+1)≤100000:=aD (cj (b3 t) 1) rfl;rw[gT] at l L;have v:a.hs.length≤16777216:=by clear t;exact b8 (.c 1 (.a (.a (.a .b .f) .g) .j) (.n 20) (.g 1 .b (.n 16777216))) rfl l
  have w:a.os.length≤16777216:=by clear t;exact b8 (.c 1 (.a (.a (.a .b .f) .g) .j) (.n 20) (.g 1 .f (.n 16777216))) rfl l
  have z:a.ts.length≤16777216:=by clear t;exact b8 (.c 1 (.a (.a (.a .b .f) .g) .j) (.n 20) (.g 1 .j (.n 16777216))) rfl l
  have A:b.hs.length≤16777216:=by clear t;exact b8 (.c 1 (.a (.a (.a .b .f) .g) .j) (.n 20) (.g 1 .b (.n 16777216))) rfl L
  have B:b.os.length≤16777216:=by clear t;exact b8 (.c 1 (.a (.a (.a .b .f) .g) .j) (.n 20) (.g 1 .f (.n 16777216))) rfl L
  have C:b.ts.length≤16777216:=by clear t;exact b8 (.c 1 (.a (.a (.a .b .f) .g) .j) (.n 20) (.g 1 .j (.n 16777216))) rfl L
  have D:=Cz (x:=a.fr) (y:=b.fr);have F:=Cz (x:=a.ts.length) (y:=b.ts.length);generalize((cv (fW a b)).map (1+·)).any (nJ a b)=r at f;induction r with
  |true=>exact aw 137742065938 [.y c,.p (ds:=(a_ a).hs.map ag) ez v,.p (ds:=(a_ a).os.map ag) ez w,.p (ds:=(a_ b).hs.map ag) ez A,.p (ds:=(a_ b).os.map ag) ez B,.F D,.p (ds:=(a_ a).ts.map ag) ez z,.p (ds:=(a_ b).ts.map ag) ez C,.F F,.le u,.sub f]
  |false=>exact aw 137742065938 [.y c,.p (ds:=(a_ a).hs.map ag) ez v,.p (ds:=(a_ a).os.map ag) ez w,.p (ds:=(a_ b).hs.map ag) ez A,.p (ds:=(a_ b).os.map ag) ez B,.F D,.p (ds:=(a_ a).ts.map ag) ez z,.p (ds:=(a_ b).ts.map ag) ez C,.F F,.le u,.sub f]
noncomputable def fD (a:aK) (p:Nat):Nat:=match a.rd p with
 |some k=>bY k
 |none=>0
theorem OJ {l:List (List Nat)}:∀{h:Nat},(l.map bY).foldl (·|||·) h=h|||bY l.flatten:=by
 induction l with
 |nil=>exact(S2 _).symm
 |cons k l i=>intro h;rw[eE,t_,i,D2,Bx,ug]
abbrev hx:=Nat→Option Nat
theorem QH (o:a.Ok) (c:p<a.fr):((a_ a).hs++(a_ a).os)[p]? =ac (fD a p):=by
 have b:(a_ a).hs.length=a.hs.length:=aB _;unfold fD aK.rd;by_cases h:p<a.hs.length
 ·rw[aJ h,jF (b▸h),cS h];show(a.hs.map bY)[p]? =_;rw[dX,cS h];rfl
 ·have d:=tV (dC h) c;rw[aL h,aJ c,jE (b▸dC h),b,cS d];show(a.os.map fun k=>bY k|||256)[p-a.hs.length]? =ac (bY (cM (a.os[p-a.hs.length]++[8])));rw[dX,cS d,s1 (o.nk _ (cG _ (cG _ (eD _ (k1 _)))))];rfl
theorem M1 (o:a.Ok) (c:¬p<a.fr):fD a p=((a_ a).rs++(a_ a).ts).foldl (·|||·) 0:=by
 show _=((a.rs.map bY)++(a.ts.map bY)).foldl (·|||·) 0;rw[←cd,OJ,Nat.zero_or];unfold fD aK.rd;rw[aL fun h=>c (ft h (bu _ _)),aL c];by_cases h:a.rs=[]
 ·have t:=gl fun d=>o.ts d h;refine ak (aJ h) (ak h (ak t ?_));rfl
 ·exact ak (aL h) (CE fun u b=>(ay (t5.mp b) fun k e b=>(o.nk k ((dD.mp e).elim (fun h=>cG _ (eD _ h)) (eD _))).1.2.2.1 u b))
theorem Qa (o:a.Ok) (l:(bm a).length≤20):aE 1 289 [.l (kb (a_ a)),.l (ag p)] Y (ag (fD a p)) [] Y:=zo.of _ _ fun n q=>by
 have l:=gT▸l;have d:=oJ (m:=(a_ a).os) (by rw[show(a_ a).hs.length=a.hs.length from aB _,show(a_ a).os.length=a.os.length from aB _];exact b8 (.c 1 (.a (.a (.a .b .f) .g) .j) (.n 20) (.g 1 (.a .b .f) (.n 1000000))) rfl l);have L:(((a_ a).hs++(a_ a).os).map ag).length=a.fr:=by
  rw[aB,bi];exact congr (aS _ (aB _)) (aB _)
 have f:a.fr≤16777216:=by unfold aK.fr;exact b8 (.c 1 (.a (.a (.a .b .f) .g) .j) (.n 20) (.g 1 (.a .b .f) (.n 16777216))) rfl l
 by_cases e:p<a.fr
 ·have G:eA (.c (((a_ a).hs++(a_ a).os).map ag)) (ag p)=ac (ag (fD a p)):=dH (by refine ak (dX) (ak (QH o e) ?_);rfl);have c:=cu e;exact aw 2 [.w d,.p L f,.A c,.get G]
 ·have D:=oJ (m:=(a_ a).ts) (by refine ak (show(a_ a).rs.length=a.rs.length from aB _) (ak (show(a_ a).ts.length=a.ts.length from aB _) ?_);exact b8 (.c 1 (.a (.a (.a .b .f) .g) .j) (.n 20) (.g 1 (.a .g .j) (.n 1000000))) rfl l);refine ak (M1 o e) ?_;generalize(a_ a).rs++(a_ a).ts=F at D;have i:=(qn (n:=n) (g:=289) (b:=ah) [3] ag F (·|||·) (fun h=>[(92,.l (kb (a_ a))),(11,.l (ag p)),(35,.l (a5 ((a_ a).hs++(a_ a).os))),(17,.l (ag h))]) (fun _=>Y) (fun _=>True) 0 trivial rfl fun h _ j _=>⟨trivial,a',av rfl,by
   have k:(vW.B iw (ag h) (ag j)).e=ac (ag (h|||j)):=Cu;exact bq 0 [.B k],rfl⟩).2
  exact aw 8194 [.w d,.p L f,.A (cP e),.w D,.sub i]
noncomputable def h_ (f:hx) (p u:Nat):hx:=fun q=>if q=p then ac u else f q
noncomputable def jC (a:aK) (p:Nat) (ws:List hx):List hx:=ws.flatMap fun f=>((a.hs[p]?).getD []).map fun u=>h_ f p u
noncomputable def h9 (a:aK) (H:List Nat):List hx:=H.foldl (fun w p=>jC a p w) [fun _=>ah]
theorem tn:h9 a (H++[p])=jC a p (h9 a H):=by unfold h9;refine ak re ?_;rfl
theorem wT:(jC a p ws).length=((a.hs[p]?).getD []).length*ws.length:=by
 unfold jC;induction ws with
 |nil=>simp
 |cons f ws i=>rw[D3,bi,i,aB,mY,EK,lR,f_]
theorem sf {P:List b→Prop} (h:P []) (a:∀l x,P l→P (l++[x])):∀l,P l:=fun l=>by
 rw[←List.reverse_reverse l];induction l.reverse with
 |nil=>exact h
 |cons x r i=>rw[D0];exact a _ x i
theorem CY (H:List Nat):(h9 a H).length=H.foldr (fun p n=>((a.hs[p]?).getD []).length*n) 1:=by
 have k:∀(H:List Nat) (c:Nat),H.foldr (fun p n=>((a.hs[p]?).getD []).length*n) c=H.foldr (fun p n=>((a.hs[p]?).getD []).length*n) 1*c:=by
  intro H;induction H with
  |nil=>intro c;simp
  |cons p H i=>intro c;rw[Sf,i,Sf,En]
 refine sf (P:=fun H=>(h9 a H).length=H.foldr (fun p n=>((a.hs[p]?).getD []).length*n) 1) rfl (fun l x i=> ?_) H;rw[tn,wT,i,List.foldr_append,Ez]
 conv=>rhs;rw[k]
 simp
theorem PT {f:hx} (H:List Nat) (n:H.Nodup):f∈h9 a H↔∀p,(p∈H→∃u,f p=ac u∧u∈(a.hs[p]?).getD [])∧(p∉H→f p=ah):=by
 revert f n
 refine sf (P:=fun H=>∀{f:hx},H.Nodup→(f∈h9 a H↔∀p,(p∈H→∃u,f p=ac u∧u∈(a.hs[p]?).getD [])∧(p∉H→f p=ah))) ?_ ?_ H
 ·intro f _;constructor
  ·exact fun h p=>ak (bW.mp h) (⟨(fun h=>nomatch h),fun _=>rfl⟩)
  ·exact fun h=>bW.mpr (funext fun p=>(h p).2 (fun h=>nomatch h))
 ·intro l x i f n;rw[ke] at n;obtain⟨j,_,d⟩:=n;have k:=fun h=>d x h x (by simp) rfl;refine ak tn ?_;unfold jC;rw[pz];constructor
  ·rintro ⟨g,o,r⟩ p;refine ay (cr.mp r) fun u c y=> ?_;subst y;have:=(i j).mp o p;by_cases b:p=x
   ·subst b;exact⟨fun _=>bd u (by unfold h_;rw[aJ rfl]) c,fun h=>aR (by simp) h⟩
   ·have m:p∈l++[x]↔p∈l:=by simp[b]
    rw[m];unfold h_;exact ak (aL b) this
  ·refine fun h=>ay ((h x).1 (by simp)) fun u c m=>bd (fun q=>if q=x then ah else f q) ((i j).mpr fun p=> ?_) (cr.mpr ⟨u,m,funext fun q=> ?_⟩)
   ·by_cases b:p=x
    ·subst b;exact⟨fun h=>aR h k,fun _=>by simp⟩
    ·have:=h p;have s:p∈l++[x]↔p∈l:=by simp[b]
     rw[s] at this;simp only[aL b];exact this
   ·unfold h_;by_cases e:q=x
    ·subst e;rw[aJ rfl,c]
    ·rw[aL e];exact aL e
theorem MZ {a:aK} (c:p<a.hs.length):(a_ (a.pick f)).hs.take p++[eZ u]++(a_ (a.pick f)).hs.drop (p+1)=(a_ (a.pick (h_ f p u))).hs:=by
 show((a.hs.mapIdx (gE f)).map bY).take p++[eZ u]++((a.hs.mapIdx (gE f)).map bY).drop (p+1)=(a.hs.mapIdx (gE (h_ f p u))).map bY;have l:((a.hs.mapIdx (gE f)).map bY).length=a.hs.length:=by simp
 have d:(((a.hs.mapIdx (gE f)).map bY).take p).length=p:=by rw[nX,l];exact ua (gJ c)
 refine x5 fun q=> ?_;by_cases h:q<p
 ·have e:q<a.hs.length:=b6 (.c 1 (.a .b .n1) .f (.c 1 (.a .g .n1) .b (.g 1 (.a .g .n1) .f))) rfl c h;rw[ef,jF (by exact b6 (.c 1 .b .f (.c 1 (.a .g .n1) .b (.g 1 (.a .g .n1) .f))) rfl (a9 (cB d)) h),Rb h,dX,dX,nU,nU,cS e];unfold h_ gE;simp[hZ h]
 ·rw[ef,jE (by exact b6 (.c 1 .b .f (.c 1 .f .g (.g 1 .b .g))) rfl (a9 d) (dC h)),d];by_cases b:q=p
  ·subst b;rw[pE,dX,nU,cS c];unfold h_ gE;simp[bY]
  ·rw[jE (by simp;exact t3 (rc (dC h) (oh b))),RS,DG,dX,dX,nU,nU,show p+1+(q-p-1)=q from rb (rc (dC h) (oh b))];unfold h_ gE;simp[b]
structure oB (p:Nat) (d:List aK) (G:List Nat):Prop where
 nd:G.Nodup
 of:∀x∈G,∃b∈d,∃k,b.rd p=ac k∧x=bY k
 to:∀b∈d,∀k,b.rd p=ac k→bY k∈G
theorem BE {b:aK} (o:b.Ok) (h:b.rd p=ac k):gi k:=by
 have c:∀k∈bm b,e0 k:=o.nk;unfold aK.rd at h;split at h
 ·exact(c k (by unfold bm;simp[eR h])).1
 ·split at h
  ·induction d:b.os[p-b.hs.length]?with
   |none=>rw[d] at h;injection h
   |some a=>
    rw[d] at h;injection h with h;subst h;exact lr ⟨8,by simp,by decide⟩
  ·split at h
   ·injection h
   ·rename_i r;injection h with h;subst h;obtain⟨a,e⟩:=nS _ r;have:=c a (by unfold bm;simp[e]);obtain⟨u,f⟩:=nS _ this.1.1;exact lr (bd u (t5.mpr ⟨a,by simp[e],f⟩) (this.1.2.2.1 u f))
theorem oB.tells (o:∀b∈ls,b.Ok) (g:oB p ls G):(1<G.length∧0<(G.filter fun x=>aM (x&&&20=0)).length)↔mR ls p:=by
 have n:∀b∈ls,∀k,b.rd p=ac k→gi k:=fun b a k h=>BE (o b a) h;constructor
 ·rintro ⟨A,B⟩;refine⟨?_, ?_⟩
  ·match C:G,g.nd,A with
   |x::y::r,N,_=>
    refine tb fun _ q=> ?_;obtain⟨b,a,k,E,f⟩:=g.of x (by simp);obtain⟨c,j,l,s,D⟩:=g.of y (by simp);refine q (⟨b,a,c,j,k,l,E,s,fun e=> ?_⟩);have:x=y:=by rw[f,D,e]
    subst this;simp at N
  ·refine(nS _ (jf.mp B)).elim fun x i=>tb fun _ q=> ?_;obtain⟨m,u⟩:=c_.mp i;obtain⟨b,a,k,E,f⟩:=g.of x m;refine q ?_;exact⟨b,a,k,E,(Ae (n b a k E).2.2.1).mp (by rw[←f];simpa using u)⟩
 ·refine fun Z=>tb fun _ q=> ?_;obtain⟨⟨b,a,c,j,k,l,E,f,F⟩,d,v,w,s,u⟩:=Z;have i:=g.to b a k E;have t:=g.to c j l f;refine q (⟨?_,jf.mpr (x0 (c_.mpr ⟨g.to d v w s,by simpa using(Ae (n d v w s).2.2.1).mpr u⟩))⟩)
  match C:G,i,t with
  |[z],i,t=>exact aR ((bW.mp i).trans (bW.mp t).symm) (fun e=>F (xb (n b a k E) (n c j l f) e))
  |_::_::_,_,_=>simp
theorem E_:eJ uC (ag a) (ag b)=ac (ag (a&&&b)):=by
 show ac (ae (D7 a b))=_;rw[Iv]
theorem MG (h:∀p:Nat,((a.hs[p]?).getD []).length≤9):∀H:List Nat,(h9 a H).length≤9^H.length:=
 sf (bv 1) fun l x i=>by
  rw[tn,wT,bi,DG,Nat.pow_succ,Ez];exact k2 i (h x)
noncomputable def bR (b:aK):aj:=kb (a_ b)
noncomputable def d0 (a:aK) (f:hx):aj:=kb (a_ (a.pick f))
noncomputable def co (a:aK) (H:List aK):List hx:=by classical exact if 1<cw a H∧cw a H<26 then h9 a (gf a H) else[]
theorem BK {H:List aK} (o:a.Ok) (f:1≤a.hs.length) (l:(bm a).length≤20) (h:∀b∈H,ih b) (j:H.length≤8):aE 3 291 [.l (bR a),.l (.c (H.map bR))] Y (.c ((H.filter (ek a)).map bR)) [] Y:=zo.of _ _ fun n k=>by
 have i:(H.map bR).length≤b4:=by rw[aB];exact aD j rfl
 have C:=fI (g:=291) [0] 0 58 bR H (fun b=>if ek a b then[bR b] else[]) [(92,.l (bR a)),(63,.l (.c (H.map bR)))] Y fun b d=>by
  have c:=HY (Y:=Y) o (h b d).ok f l (aD (h b d).c rfl) n k;induction e:ek a b with
  |true=>rw[e] at c;exact cZ 0 [.call c]
  |false=>rw[e] at c;exact cZ 0 [.call c]
 rw[ng] at C;exact aw 0 [.le i,.sub C]
section
variable{a:aK}
noncomputable def ln (a:aK) (H:List aK) (s:il):au:=[(20,.l (bM a)),(63,.l (.c (H.map bR))),(95,s)]
theorem oB.put (o:b.Ok) (g:oB p d G) (q:0<fD b p) (Q:fD b p∉G):oB p (d++[b]) (G++[fD b p]):=by
 have e {k:List Nat} (h:b.rd p=ac k):fD b p=bY k:=by unfold fD;rw[h]
 refine⟨ke.mpr ⟨g.nd,gn.mpr ⟨kh,h7⟩,fun x i y m e=>Q (bW.mp m▸e▸i)⟩,ja (fun x i=>let⟨c,j,h⟩:=g.of x i;⟨c,cG _ j,h⟩) ?_,ja (fun c j f l=>cG _ (g.to c j f l)) fun f l=> ?_⟩
 ·induction r:b.rd p with
  |none=>unfold fD at q;rw[r] at q;exact aR q (gI 0)
  |some f=>exact⟨b,eD _ (cU _),f,r,e r⟩
 ·exact e l▸eD _ (cU _)
theorem oB.skip (o:b.Ok) (g:oB p d G) (q:0<fD b p→fD b p∈G):oB p (d++[b]) G:=by
 refine⟨g.nd,fun x j=>let⟨c,i,h⟩:=g.of x j;⟨c,cG _ i,h⟩,ja (fun c i k f=>g.to c i k f) fun k f=> ?_⟩
 have e:fD b p=bY k:=by unfold fD;rw[f]
 exact e▸q (e▸IE (BE o f))
theorem I6 (v:∀b∈H,ih b) (t:H.length≤8) (s:il) {G:Prop} (q:∀ms,oB p H ms→ms.length≤8→(∀n,1≤n→cc bw (aZ n) (dS 290 [1,1] ah (H.map bR) (ln a H s++[(11,.l (ag p)),(46,bE (.c []))]) Y) a' (ln a H s++[(11,.l (ag p)),(46,bE (.c (ms.map ag)))]) Y)→G):G:=
 kV [1,1] bR H (fun ms=>ln a H s++[(11,.l (ag p)),(46,bE (.c (ms.map ag)))]) (fun _=>Y) (fun d ms=>oB p d ms∧ms.length≤d.length) [] ⟨⟨h7,(fun _ h=>nomatch h),fun _ h=>nomatch h⟩,bv _⟩ rfl
  (fun D b r ms e ⟨g,f⟩ z q=>by
   have P:=v b (eO e);have y:=ao (by rw[e,bi];exact bu _ _) t;have c:=Qa (p:=p) (Y:=Y) P.ok (aD P.c rfl);have j:cX (ag (fD b p)) (.c (ms.map ag))=ac (ms.contains (fD b p)):=by rw[←rX];exact wN
   have m:=kK (l:=ms.map ag) (x:=ag (fD b p)) (by rw[aB];exact ao f (aD y rfl));have u:ms.length≤(D++[b]).length:=ao f (by rw[bi];exact bu _ _);induction k:aM (0<fD b p) with
   |false=>
    refine q ms ⟨g.skip P.ok fun h=>aR h (rl k),u⟩ rfl fun n i=> ?_;have c:=c n i;exact bq 0 [.call c,.y k]
   |true=>
    induction o:ms.contains (fD b p) with
    |true=>
     refine q ms ⟨g.skip P.ok fun _=>ee.mp o,u⟩ rfl fun n i=> ?_;have c:=c n i;rw[o] at j;exact bq 0 [.call c,.y k,.has j]
    |false=>
     refine q (ms++[fD b p]) ⟨g.put P.ok (dB k) (fun h=>nomatch o.symm.trans (ee.mpr h)),by rw[bi,bi];exact b3 f⟩ rfl fun n i=> ?_;have c:=c n i;rw[o] at j;rw[cd];exact bq 0 [.call c,.y k,.has j,.u m])
  fun ms ⟨g,f⟩ w=>q ms g (ao f t) w
structure CM (a:aK) (H:List aK) (p:Nat) (k:List Nat) (W:List hx):Prop where
 f:a.hs[p]? =ac k
 kk:e0 k
 W:W.length≤81
 h3:a.hs.length≤3
theorem Jc (h:u<8):eA (.j [ae 1,ae 2,ae 8,ae 32,ae 64,ae 128,ae 7,ae 24]) (ag u)=ac (ag (eZ u)):=
 w3 (P:=fun j=>eA (.j [ae 1,ae 2,ae 8,ae 32,ae 64,ae 128,ae 7,ae 24]) (ag j)=ac (ag (eZ j))) rfl rfl rfl rfl rfl rfl rfl rfl h
noncomputable def ni (a:aK) (H:List aK) (p:Nat) (W:List hx) (ms us:List Nat) (X:List hx):au:=ln a H (.l (.c (W.map (d0 a))))++[(11,.l (ag p)),(46,.l (a5 ms)),(59,bE (.c (us.map ag))),(60,bE (.c (X.map (d0 a))))]
theorem Kb (h:CM a H p k W) (j:X.length≤729):
  cc bw (aZ n) (dS 290 [1,3,0,1,0] ah (k.map ag) (ni a H p W ms us X++[(80,.l (a5 (a_ (a.pick f)).hs)),(82,.l (a5 (a_ (a.pick f)).os)),(66,.l (a5 (a_ (a.pick f)).rs)),(83,.l (a5 (a_ (a.pick f)).ts)),(7,.l (ag (a_ (a.pick f)).c))]) Y) a'
   (ni a H p W ms us (X++k.map (h_ f p))++[(80,.l (a5 (a_ (a.pick f)).hs)),(82,.l (a5 (a_ (a.pick f)).os)),(66,.l (a5 (a_ (a.pick f)).rs)),(83,.l (a5 (a_ (a.pick f)).ts)),(7,.l (ag (a_ (a.pick f)).c))]) Y:=by
 obtain⟨x,_,L⟩:=hm (n:=n) (g:=290) (b:=ah) [1,3,0,1,0] ag k (fun d (_:Unit)=>ni a H p W ms us (X++d.map (h_ f p))++[(80,.l (a5 (a_ (a.pick f)).hs)),(82,.l (a5 (a_ (a.pick f)).os)),(66,.l (a5 (a_ (a.pick f)).rs)),(83,.l (a5 (a_ (a.pick f)).ts)),(7,.l (ag (a_ (a.pick f)).c))]) (fun _ _=>Y) (fun _ _=>True) () trivial rfl fun D u r x e _=>⟨(),a',trivial,av rfl,by
  have P:=(hy.mp h.f).1;have i:(a_ (a.pick f)).hs.length≤3:=by unfold a_;rw[aB,lu];exact h.h3
  have G:=Jc (h.kk.lt (eO e));have c:f7 ah (ac (p:Int)) (.c ((a_ (a.pick f)).hs.map ag))=ac (a5 ((a_ (a.pick f)).hs.take p)):=vU.trans (by unfold a5;rw[rq]);have C:f7 (ac ((p:Int)+1)) ah (.c ((a_ (a.pick f)).hs.map ag))=ac (a5 ((a_ (a.pick f)).hs.drop (p+1))):=(qC).trans (by unfold a5;rw[yh]);have B:eJ b9 (a5 ((a_ (a.pick f)).hs.take p)) (.c [ag (eZ u)])=ac (a5 ((a_ (a.pick f)).hs.take p++[eZ u])):=ny (m:=[eZ u]) (aD (b3 (show _≤3 by rw[nX];exact ao (nY _ _) i)) rfl);have o:eJ b9 (a5 ((a_ (a.pick f)).hs.take p++[eZ u])) (a5 ((a_ (a.pick f)).hs.drop (p+1)))=ac (a5 (a_ (a.pick (h_ f p u))).hs):=by
   rw[←MZ P];exact oJ (by rw[bi,nX,rh,DG];exact b6 (.c 2 .b (.n 3) (.c 1 .f .b (.c 1 .g .b (.g 1 (.a (.a .f .n1) .g) (.n 1000000))))) rfl i (nY (p) ((a_ (a.pick f)).hs.length)) (it ((a_ (a.pick f)).hs.length) (p+1)))
  have q:=ao (by rw[e,bi];exact bu _ _) h.kk.1.len;have M:=kK (l:=(X++D.map (h_ f p)).map (d0 a)) (x:=.j [a5 (a_ (a.pick (h_ f p u))).hs,a5 (a_ (a.pick f)).os,a5 (a_ (a.pick f)).rs,a5 (a_ (a.pick f)).ts,ag (a_ (a.pick f)).c]) (by rw[aB,bi,aB];exact aD (dd j q) rfl);rw[cd (l₂:=[u]),←ef];unfold ni;rw[cd (l₂:=[u].map _)];exact bq 4096 [.cut c,.get G,.w B,.cut C,.w o,.u M],rfl⟩
 rw[SJ,c8] at L;exact L
theorem JC (h:CM a H p k W):
  cc bw (aZ n) (dS 290 [1,3,0,1] ah (W.map (d0 a)) (ni a H p W ms us []) Y) a' (ni a H p W ms us (jC a p W)) Y:=by
 have G:eA (.c (a.hs.map a5)) (ag p)=ac (a5 k):=dH (by rw[dX,h.f];rfl);obtain⟨x,_,l⟩:=hm (n:=n) (g:=290) (b:=ah) [1,3,0,1] (d0 a) W (fun d (_:Unit)=>ni a H p W ms us (jC a p d)) (fun _ _=>Y) (fun _ _=>True) () trivial rfl fun D f r x e _=>⟨(),a',trivial,av rfl,by
  have c:=ao (by rw[e,bi];exact bu _ _) h.W;have X:(jC a p D).length≤729:=by rw[wT,h.f,nW];exact k2 h.kk.1.len c
  have w:=Kb (n:=n) (f:=f) (ms:=ms) (us:=us) (Y:=Y) h X;have E:jC a p (D++[f])=jC a p D++k.map (h_ f p):=by
   unfold jC;rw[DQ,DE,h.f];rfl
  rw[E];exact bq 1 [.get G,.sub w],rfl⟩
 exact l
structure Tf (a:aK) (H:List aK) (d:List Nat) (x:List hx×Bool):Prop where
 W:x.1=h9 a (d.filter (j6 a H))
theorem LJ (s:fg a) (q:Nat):((a.hs[q]?).getD []).length≤9:=by
 induction h:a.hs[q]?with
 |none=>exact cA _
 |some x=>exact(s.kk x (cG _ (cG _ (cG _ (eR h))))).1.len
theorem y4 (s:fg a) (h:l.length≤d):(h9 a l).length≤9^d:=ao (MG (LJ s) _) (Nat.pow_le_pow_right (by decide) h)
abbrev Pg (a:aK) (H:List aK) (Y:ar) (p:Nat) (x X:List hx×Bool):Prop:=∀n,1≤n→ff n 290 [1] (hn (ln a H (jQ af (.c ([(fun _=>ah)].map (d0 a)))))) (ag p) (ln a H (jQ x.2 (.c (x.1.map (d0 a))))) Y a' (ln a H (jQ X.2 (.c (X.1.map (d0 a))))) Y
theorem JY {x:List hx×Bool} (h:CM a H p k x.1) (t:∀b∈H,ih b) (z:H.length≤8) {v:Prop} (q:∀b,Pg a H Y p x (if j6 a H p then jC a p x.1 else x.1,b)→v):v:=by
 refine I6 (a:=a) (p:=p) (Y:=Y) t z (jQ x.2 (.c (x.1.map (d0 a)))) fun ms g y l=> ?_;have s:j6 a H p=(aM (1<k.length)&&(aM (1<ms.length)&&aM (0<(ms.filter fun x=>aM (x&&&20=0)).length))):=by
  rw[ji,nv,h.f,nW,←g.tells fun b A=>(t b A).ok,fu,fu,k0,k0,k0]
 have G:eA (.c (a.hs.map a5)) (ag p)=ac (a5 k):=dH (by rw[dX,h.f];rfl);have L:k.length≤16777216:=aD h.kk.1.len rfl;have o:ms.length≤16777216:=aD y rfl;have u:(ms.filter fun x=>aM (x&&&20=0)).length≤16777216:=ao (hY _ _) o;have I:(ms.map ag).length≤b4:=by rw[aB];exact aD y rfl
 have C (n:Nat):=fI (n:=n) (g:=290) [1,2] 0 58 ag ms (fun m=>if aM (m&&&20=0) then[ag m] else[]) (ln a H (jQ x.2 (.c (x.1.map (d0 a))))++[(11,.l (ag p)),(46,.l (a5 ms))]) Y fun m _=>by
  have B:=E_ (a:=m) (b:=20);induction c:(m&&&20==0) with
  |true=>
   rw[cu (dL.mp c)];exact cZ 0 [.w B,.x c]
  |false=>
   rw[cP (c5.mp c)];exact cZ 0 [.w B,.x c]
 have w (n:Nat):=JC (n:=n) (ms:=ms) (us:=ms.filter fun x=>aM (x&&&20=0)) (Y:=Y) h;rw[ng] at C;generalize(ms.filter fun x=>aM (x&&&20=0))=us at*;rw[s] at q;induction d:aM (1<k.length) with
 |false=>
  refine q x.2 fun n e=> ?_;rw[d];have l:=l n e;have C:=C n;exact bq 4096 [.sub l,.le I,.sub C,.get G,.p (ds:=k.map ag) (aB _) L,.y d]
 |true=>
  induction f:aM (1<ms.length) with
  |false=>
   refine q x.2 fun n e=> ?_;rw[d,f];have l:=l n e;have C:=C n;exact bq 4096 [.sub l,.le I,.sub C,.get G,.p (ds:=k.map ag) (aB _) L,.y d,.p (ds:=ms.map ag) (aB _) o,.y (i:=ms.length) (j:=1) f]
  |true=>
   induction r:aM (0<us.length) with
   |false=>
    refine q x.2 fun n e=> ?_;rw[d,f,r];have l:=l n e;have C:=C n;exact bq 4096 [.sub l,.le I,.sub C,.get G,.p (ds:=k.map ag) (aB _) L,.y (i:=k.length) (j:=1) d,.p (ds:=ms.map ag) (aB _) o,.y (i:=ms.length) (j:=1) f,.p (ds:=us.map ag) (aB _) u,.y (i:=us.length) (j:=0) r]
   |true=>
    refine q ai fun n e=> ?_;rw[d,f,r];have l:=l n e;have C:=C n;have w:=w n;have⟨W,b⟩:=x;clear s q h;induction b with
    |true=>exact bq 4096 [.sub l,.le I,.sub C,.get G,.p (ds:=k.map ag) (aB _) L,.y (i:=k.length) (j:=1) d,.p (ds:=ms.map ag) (aB _) o,.y (i:=ms.length) (j:=1) f,.p (ds:=us.map ag) (aB _) u,.y (i:=us.length) (j:=0) r,.sub w]
    |false=>exact bq 4096 [.sub l,.le I,.sub C,.get G,.p (ds:=k.map ag) (aB _) L,.y (i:=k.length) (j:=1) d,.p (ds:=ms.map ag) (aB _) o,.y (i:=ms.length) (j:=1) f,.p (ds:=us.map ag) (aB _) u,.y (i:=us.length) (j:=0) r,.sub w]
theorem qr (h:aM (i<j)=b):(wk.s eU (ag i) (ag j)).e=ac b:=by
 rw[←h];exact aS ac (n7.mpr g5)
theorem GJ:a.pick (fun _=>ah)=a:=by
 unfold aK.pick;rw[show a.hs.mapIdx (gE fun _=>ah)=a.hs from x5 fun i=>by rw[nU];exact Option.map_id' ..]
theorem Jv (s:fg a) (o:∀b∈H,ih b) (t:H.length≤8):aE 3 290 [.l (bM a),.l (.c (H.map bR))] Y (.c ((co a H).map (d0 a))) [] Y:=by
 have c:=tv (Y:=Y) s.kk (aD s.small.1 rfl);rw[show kb (a_ a)=d0 a (fun _=>ah) by unfold d0;rw[GJ]] at c;have L:a.hs.length≤16777216:=aD s.h3 rfl;have f:a.hs.length≤100000:=aD s.h3 rfl
 refine kV (N:=(1≤·)) (g:=290) (b:=ah) [1] ag (cv a.hs.length) (fun x:List hx×Bool=>ln a H (jQ x.2 (.c (x.1.map (d0 a))))) (fun _=>Y) (Tf a H) ([fun _=>ah],af) ⟨rfl⟩ rfl
  (fun D p r x e h B q=> ?_) fun x h l=> ?_
 ·have P:=hB.mp (eO e);have u:=cS P;have z:D.length≤2:=by
   have:=aS gK e;rw[gm,bi,mY] at this;exact q9 (ao (ao (cj (m3 _) _) (a9 this.symm)) s.h3)
  refine JY ⟨u,s.kk _ (cG _ (cG _ (cG _ (eR u)))),h.W▸y4 s (ao (hY _ _) z),s.h3⟩ o t fun b A=>q _ ⟨?_⟩ rfl A;rw[pv,ri];cases j6 a H p with
  |true=>exact(aS _ h.W).trans (tn).symm
  |false=>exact h.W.trans (aS _ (c8 _).symm)
 ·have m:x.1=h9 a (gf a H):=h.W;have w:x.1.length≤16777216:=aD (m▸y4 s (d:=3) (ao (hY _ _) (by rw[gm];exact s.h3))) rfl;have E:co a H=if(aM (1<x.1.length)&&aM (x.1.length<26))=af then x.1 else[]:=by
   rw[m,show(h9 a (gf a H)).length=cw a H from CY _];exact ite_congr (propext (by rw[fu,k0,k0])) (fun _=>rfl) fun _=>rfl
  rw[E];rw[←jN] at l;refine zo.of _ _ fun n v=> ?_;have l:=l n (bl v rfl);have c:=c n v;clear m h E s o t;have⟨W,b⟩:=x;induction k:aM (1<W.length) with
  |false=>induction b<;>exact aw 16 [.call c,.p (ds:=a.hs.map a5) (aB _) L,.le f,.sub l,.p (ds:=W.map (d0 a)) (aB _) w,.z (qr k)]
  |true=>
   induction y:aM (W.length<26) with
   |false=>induction b<;>exact aw 16 [.call c,.p (ds:=a.hs.map a5) (aB _) L,.le f,.sub l,.p (ds:=W.map (d0 a)) (aB _) w,.z (qr k),.z (qr y)]
   |true=>induction b<;>exact aw 16 [.call c,.p (ds:=a.hs.map a5) (aB _) L,.le f,.sub l,.p (ds:=W.map (d0 a)) (aB _) w,.z (qr (i:=1) (j:=W.length) k),.z (qr (i:=W.length) (j:=26) y)]
end
theorem Fw {l:List (List Nat)}:∀{g:Nat→List Nat→List Nat},(∀i k,l[i]? =ac k→(g i k).length≤k.length)→
  ((l.mapIdx g).map fun k=>k.length+1).sum≤(l.map fun k=>k.length+1).sum∧((∃(i:Nat) (k:List Nat),l[i]? =ac k∧(g i k).length<k.length)→((l.mapIdx g).map fun k=>k.length+1).sum<(l.map fun k=>k.length+1).sum):=by
 induction l with
 |nil=>exact fun h=>⟨bv _,fun z=>bK z fun i k h _=>iC h⟩
 |cons a l I=>
  intro g h;have c:=h 0 a rfl;refine(I (g:=fun i=>g (i+1)) fun i k b=>h (i+1) k b).elim fun d f=>ak List.mapIdx_cons (ak eE (ak eE (ak n8 (ak n8 (⟨dd (b3 c) d,fun z=>bK z fun i k b e=> ?_⟩)))));induction i using ir with
  |zero=>exact Nat.add_lt_add_of_lt_of_le (D' (bD b▸e)) d
  |succ i=>exact Nat.add_lt_add_of_le_of_lt (b3 c) (f (cL i k b e))
theorem Cf {a:aK} (o:a.Ok):(a.pick f).W≤a.W∧((∃p k u,a.hs[p]? =ac k∧f p=ac u∧1<k.length)→(a.pick f).W<a.W):=by
 have b:∀k∈bm a,e0 k:=o.nk;obtain⟨h,c⟩:=Fw (l:=a.hs) (g:=gE f) fun i k d=>by
  unfold gE;split
  ·have:=(b k (by unfold bm;simp[eR d])).1.1;exact jf.mpr this
  ·exact bv _
 refine ak tt (ak tt (⟨?_,fun z=>j9 z fun p k u e E j=> ?_⟩))
 ·exact dc (dc (dc h _) _) _
 ·have:=c (cL p k e (by unfold gE;refine ak E ?_;exact j));exact xW (xW (xW this _) _) _
theorem Li {a:aK} (o:a.Ok) (g:iS a ls f) (h:1<cw a ls):(a.pick f).W<a.W:=by
 refine(Cf o).2 ?_;have i:gf a ls≠[]:=fun e=>by unfold cw at h;rw[e] at h;simp at h
 obtain⟨p,c⟩:=nS _ i;refine ay ((g p).1 c) fun u j _=> ?_;have b:=(nv.mp (c_.mp c).2).1;obtain⟨k,d⟩:∃k,a.hs[p]? =ac k:=⟨_,cS (Ih c)⟩;rw[d] at b;exact mx p k u d j b
theorem oH.inj (I:aW R) (h:oH R E l) (h':oH R e l):E=e:=by
 induction h generalizing e with
 |nil=>cases h';rfl
 |cons p r i=>cases h' with|cons P a=>rw[p.uniq I P,i a]
theorem cg.inj (I:aW R) (h:cg R i a) (h':cg R j a):i=j:=by
 rcases h.2 with⟨e,k,O,r,p,q,Q,c,l⟩|⟨E,r,s,f⟩<;>rcases h'.2 with⟨n,o,u,b,P,T,g,t,v⟩|⟨w,b,S,F⟩
 ·rw[c] at t;simp only[List.cons.injEq,and_true] at t;subst t;rw[p.uniq I P] at r;exact o7 I.nd r b
 ·unfold aK.fr at F;rw[q,Q] at F;exact absurd F (Nat.lt_irrefl 0)
 ·unfold aK.fr at f;rw[T,g] at f;exact absurd f (Nat.lt_irrefl 0)
 ·rw[s.inj I S] at r;exact o7 I.nd r b
theorem Ax {m:List d} (h:∀x∈l,∀y∈m,f x=f y→x=y) (e:l.map f=m.map f):l=m:=by
 have b:l.length=m.length:=by rw[←aB,e,aB]
 refine List.ext_getElem b fun i a c=>h _ (k1 a) _ (k1 c) ?_;rw[←Sb f (h:=by rw[aB];exact a),←Sb f];exact List.getElem_of_eq e _
theorem Ja (o:a.Ok) (z:b.Ok) (e:a_ a=a_ b):a=b:=by
 have d:∀k∈bm a,e0 k:=o.nk;have f:∀k∈bm b,e0 k:=z.nk;refine i6 (LB.mk.inj e) fun q u v w g=> ?_;obtain⟨s,B,C,t,r⟩:=a;obtain⟨D,F,G,T,R⟩:=b;dsimp only at q u v w;have m:∀{l L:List (List Nat)},(∀k∈l,e0 k)→(∀k∈L,e0 k)→l.map bY=L.map bY→l=L:=fun h A e=>Ax (fun x i y j e=>xb (h x i).1 (A y j).1 e) e;have E:=Ax (fun x i y j e=>by
  have n:=d x (by unfold bm;simp[i]);have p:=f y (by unfold bm;simp[j]);have e:=e;rw[←s1 n,←s1 p] at e;have:=xb (lr (bd 8 (by simp) (by decide))) (lr (bd 8 (by simp) (by decide))) e;exact Cy (mk:=1) n.1 p.1 n.2 p.2 this) u
 refine ak (m (fun k c=>d k (by unfold bm;simp[c])) (fun k c=>f k (by unfold bm;simp[c])) q) ?_;refine ak E ?_;refine ak (m (fun k c=>d k (by unfold bm;simp[c])) (fun k c=>f k (by unfold bm;simp[c])) v) ?_;refine ak (m (fun k c=>d k (by unfold bm;simp[c])) (fun k c=>f k (by unfold bm;simp[c])) w) ?_;have g:r=R:=g;rw[g]
noncomputable def nf (b a:aK):Bool:=by classical exact aM (b=a)
theorem uJ:nf b a=af↔b=a:=by unfold nf;simp
theorem OU (n:Nat) (l:List Nat):aj.plain (n+1) (a5 l)=true:=cH.mpr fun x h=>by
 refine ay (cr.mp h) fun j _ y=> ?_;subst y;induction n<;>rfl
theorem M_ (o:a.Ok) (g:b.Ok):ti (bR b) (bR a)=ac (nf b a):=by
 have h:∀x:aK,aj.plain 8 (bR x)=true:=fun x=>by
  show([a5 (a_ x).hs,a5 (a_ x).os,a5 (a_ x).rs,a5 (a_ x).ts,ag (a_ x).c].all (aj.plain 7))=af;simp only[m0,SK,OU 6];rfl
 have i:aj.beq (bR b) (bR a)=nf b a:=by
  show(hJ ((a_ b).hs.map ag) ((a_ a).hs.map ag)&&(hJ ((a_ b).os.map ag) ((a_ a).os.map ag)&&(hJ ((a_ b).rs.map ag) ((a_ a).rs.map ag)&&(hJ ((a_ b).ts.map ag) ((a_ a).ts.map ag)&&(aj.beq (ag (a_ b).c) (ag (a_ a).c)&&af)))))=_;rw[q0,q0,q0,q0,mh,n9,ji];simp only[fu,n6];rw[uJ];constructor
  ·refine fun z=>i6 z fun e E c d f=>Ja g o ?_;cases j:a_ b;cases k:a_ a;rw[j,k] at e E c d f;simp only at e E c d f;rw[e,E,c,d,f]
  ·rintro rfl;exact⟨rfl,rfl,rfl,rfl,rfl⟩
 show(if(aj.plain 8 (bR b)&&aj.plain 8 (bR a))=af then ac (aj.beq (bR b) (bR a)) else ah)=_
 rw[h,h,i];rfl
theorem FJ (h:∀l,l∈ls↔l∈L):mR ls p↔mR L p:=by unfold mR;simp only[h]
theorem Bd (h:∀l,l∈ls↔l∈L):gf a ls=gf a L:=by
 unfold gf;congr 1
 funext p
 rw[ji,nv,nv,FJ h]
theorem qR (h:∀l,l∈ls↔l∈L):cw a ls=cw a L:=by unfold cw;rw[Bd h]
theorem vB (h:∀l,l∈ls↔l∈L):iS a ls f↔iS a L f:=by unfold iS;refine ak (Bd h) ?_;rfl
theorem Df (h:∀l,l∈ls↔l∈L):hh a ls↔hh a L:=by
 unfold hh;refine ak (qR h) ?_;simp only[vB h,h]
theorem vF:(co a H≠[]↔1<cw a H∧cw a H<26)∧(co a H≠[]→(co a H).length=cw a H∧∀f,f∈co a H↔iS a H f)∧(hh a H↔co a H≠[]∧∀f∈co a H,∃l∈H,db (a.pick f) l):=by
 have n:(gf a H).Nodup:=D5.sublist mX;have y:1<cw a H∧cw a H<26→co a H=h9 a (gf a H):=fun h=>by unfold co;rw[aJ h]
 have b:(h9 a (gf a H)).length=cw a H:=CY _;have k:co a H≠[]↔1<cw a H∧cw a H<26:=by
  constructor
  ·exact fun h=>gl fun g=>h (by unfold co;rw[aL g])
  ·intro h e;rw[y h] at e;rw[e] at b;simp at b;exact kY 0 (dN (.c 1 .b .n0 (.c 1 (.a .n1 .n1) .b (.g 2 .n1 .n0))) rfl (a9 (cB b)) h.1)
 have c:co a H≠[]→(co a H).length=cw a H∧∀f,f∈co a H↔iS a H f:=fun h=>by
  rw[y (k.mp h)];exact⟨b,fun f=>PT _ n⟩
 refine fe k c (⟨fun h=>⟨k.mpr h.1,fun f d=>h.2 f (((c (k.mpr h.1)).2 f).mp d)⟩,fun h=>⟨k.mp h.1,fun f d=>h.2 f (((c h.1).2 f).mpr d)⟩⟩)
theorem OB (q:cT row (c9 R)=af) (a:dA row (c9 R)=ai) (h:R.length≤1000000):aE 1 3242 [.l (an 0),.l row] (aF R::J) (ag R.length) [] (aF (R++[row])::J):=zo.of _ _ fun n _=>by
 have b:cX row (.e (c9 R))=ac false:=by show(if cT row (c9 R) then ac (dA row (c9 R)) else ah)=_;rw[aJ q,a]
 have c:fJ 3 (.c R) [row]=ac (a4,.c (R++[row])):=aJ (h);have d:gW (.e (c9 R)) row (ag R.length)=ac (.e (c9 (R++[row]))):=by
  show(if cT row (c9 R)∧(c9 R).length≤b4 then _ else _)=_
  rw[aJ ⟨q,by rw[zN];exact h⟩,rV a,Dj]
 exact aw 0 [.has b,.O (aD h rfl),.u c,.set d]
theorem Ke:((cv 16).all fun j=>match dU[j]?with
 |some r=>cT r (c9 (dU.take j))&& !dA r (c9 (dU.take j))&&(aj.key 8 r&&i7 r)
 |none=>ai)=true:=by kernel_rfl
theorem ww:dU.length=16:=by kernel_rfl
theorem xG (h:dU[j]? =ac r):cT r (c9 (dU.take j))=af∧dA r (c9 (dU.take j))=ai∧lK r:=by
 have b:j<16:=by rw[←ww];exact(hy.mp h).1
 have:=cH.mp Ke j (hB.mpr b);rw[h] at this;exact(bS.mp this).elim fun a c=>fe ((bS.mp a).1) ((x6 _).mp (bS.mp a).2) (bS.mp c)
theorem OE:aW dU:=by
 have k:∀r∈dU,lK r:=fun r h=>(ra h).elim fun j Z=>Z.elim fun b e=>(xG (e▸cS b)).2.2;refine⟨?_,k,[],(c8 _).symm⟩;have n:=sf (P:=fun d=>∀r,dU=d++r→d.Nodup) (fun _ _=>h7) fun d x i r e=>by
  have E:=e.trans (ef ..);refine dM (xG (j:=d.length) (r:=x) (by rw[E,jE (bv _),pE];rfl)) fun _ a l=> ?_;rw[E,ub] at a;refine ke.mpr ⟨i _ E,gn.mpr ⟨kh,h7⟩,fun y c z f h=> ?_⟩;have:dA x (c9 d)=true:=(xw (fun p g=>⟨8,(k p.1 (by
   have:p.1∈(c9 d).map (·.1):=cr.mpr (bd p g rfl);rw[o5] at this;exact E▸cG _ this)).1⟩)).mpr (by rw[o5];exact bW.mp f▸h▸c)
  exact nomatch a.symm.trans this
 exact n dU [] (c8 _).symm
theorem GA:aE 2 3240 [.l (an 0)] [⟨156,[]⟩] a4 [] [aF dU]:=zo.of _ _ fun n f=>by
 obtain⟨x,_,l⟩:=hm (n:=n) (g:=3240) (b:=ah) [10] id dU (fun _ (_:Unit)=>[(100,.l (an 0))]) (fun d _=>[aF d]) (fun _ _=>True) () trivial rfl fun d r R x e _=>⟨(),a',trivial,av rfl,by
  have⟨h,a,k⟩:=xG (j:=d.length) (r:=r) (by rw[e,jE (bv _),pE];rfl);rw[e,ub] at h a;have i:d.length≤1000000:=aD (ao (by rw[e,bi];exact bu _ _) (a9 ww)) rfl;have c:=OB (J:=[]) h a i n f;exact bq 0 [.call c],rfl⟩
 rw[uk] at l;exact aw 0 [.sub l]
theorem HV:aE 1 6280 [.l (an 1),.l (an 0)] [aF R,⟨232,[]⟩] a4 [] [aF R,bF]:=zo.of _ _ fun n h=>by exact aw 0 []
noncomputable def gZ (r:List (aj×aj)):o':=mO (b1 (.e r)) [] [] 0 0 1 3 af a4
theorem Jx:aE 1 1360 [.l (an 3)] [aF R,bF,i,⟨109,[]⟩] a4 [] [aF R,bF,i,es 0]:=zo.of _ _ fun n h=>by exact aw 0 []
theorem Gi:aE 2 4920 [.l (an 2),.l (an 1),.l (ae 1)] [aF R,bF,⟨198,[]⟩] a4 [] [aF R,bF,gZ [],es 0]:=zo.of _ _ fun n h=>by
 exact aw 0 [.call (Jx (R:=R) (i:=⟨198,[(11,.l (an 1)),(13,.l (ag 1)),(1,b1 (.e [])),(16,b1 (.e [])),(21,b1 (.e [])),(15,b1 (.c [])),(48,b1 (.c [])),(20,.l (ag 0)),(19,.l (ag 0))]⟩) n h)]
theorem G2:aE 1 274 [.l (an 2)] [aF R,bF,gZ [],es 0] a4 [] [aF R,bF,gZ [(ae 4,an 4)],es 0,⟨273,[]⟩]:=zo.of _ _ fun n h=>by exact aw 0 []
theorem PZ:aE 1 259 [.l (an 2)] [aF R,bF,gZ [(ae 4,an 4)],es 0,⟨273,[]⟩] a4 [] [aF R,bF,gZ [(ae 4,an 4),(ae 12,an 5)],es 0,⟨273,[]⟩,⟨257,[]⟩]:=zo.of _ _ fun n h=>by exact aw 0 []
theorem Lf:aE 1 258 [.l (an 2)] [aF R,bF,gZ [(ae 4,an 4),(ae 12,an 5)],es 0,⟨273,[]⟩,⟨257,[]⟩] a4 [] (fc.st R):=zo.of _ _ fun n h=>by exact aw 0 []
theorem NG:∀N:Nat,hJ (cx N (.j [ae 3,ae 0])) (cx N (.j [ae 3,ae 0]))=af
 |0=>rfl
 |N+1=>NG N
noncomputable def Ct:List aj→List (aj×aj)
 |[]=>[]
 |_=>[(ae 3,ae 0)]
theorem HQ {m:bh} (N:m.N≤100000):aE 1 1362 [.l (an 3)] (m.st R) (.c (if m.N=0 then[] else[ae 3])) [] (m.st R):=zo.of _ _ fun n a=>by
 have c:=NG m.N;obtain⟨x,_,l⟩:=hm (n:=n) (g:=1362) (b:=ac (3,0)) [1] id (cx m.N (.j [ae 3,ae 0])) (fun d (_:Unit)=>[(100,.l (an 3)),(10,bE (.e (Ct d)))]) (fun _ _=>m.st R) (fun _ _=>True) () trivial rfl fun d r f x e _=>⟨(),a',trivial,av rfl,by
  cases Rc (eO e);clear e c N;induction d using cn with
  |nil=>exact bq 0 []
  |cons _ _=>exact bq 0 [],by rw[uk];exact c⟩
 rw[uk] at l;have E:Ct (cx m.N (.j [ae 3,ae 0]))=if m.N=0 then[] else[(ae 3,ae 0)]:=by cases m.N<;>rfl
 rw[E] at l;by_cases h:m.N=0
 ·rw[aJ h] at l⊢;exact aw 0 [.sub l]
 ·rw[aL h] at l⊢;exact aw 0 [.sub l]
structure iU (R:List aj) (a:aK) (s t:Nat) (O:List Nat) (isL:Nat→Bool) (A:Nat→aK) (H:List aK):Prop where
 I:aW R
 sa:fg a
 W:a.W≤20
 row:∃E,R[s]? =ac (.j [ae 12,.j (bf E),ag a.c])∧b5 R E a.els
 t:AS R t O isL
 parts:mA R O isL A
 i:O.length≤9
 R:R.length≤450000
 pl:H.length≤8
 pok:∀b∈H,ih b
 c:(O.filter isL).length≤8
 mem:∀l,l∈(O.filter isL).map A↔l∈H
theorem tz:a.els.length=(bm a).length:=by rw[np,gT]
theorem Bb (a:x≤20) (b:y≤5) (h:102≤c):x*y+2≤c:=ao (dc (k2 a b) 2) h
noncomputable def ka (a:aK) (H:List aK):Nat:=by classical exact if 1<cw a H then 97 else 102
theorem z5 (b:x≤8) (d:1≤k) (c:cw a H≤k):ka a H*x*cw a H≤776*k+40:=by
 unfold ka;split
 ·exact ao (k2 (fh 97 b) c) (bu _ _)
 ·rename_i h;exact ao (k2 (fh 102 b) (dC h)) (bl (dc (fh 776 d) 40) rfl)
theorem Ls {O:List Nat} {H:List aK} (h:∀l,l∈(O.filter isL).map A↔l∈H):∀l,l∈(O.reverse.filter isL).map A↔l∈H:=fun l=>by
 rw[←h l,RI,Sa,x8]
noncomputable def l6 (a b:aK):Bool:=aM (b.c=1)||nf b a
theorem uR:l≠[]↔∃x,x∈l:=⟨nS l,fun z=>z.elim fun _ h=>x0 h⟩
section
variable{R:List aj} {t:Nat}
theorem iU.fr (h:iU R a s t O isL A H):0<a.fr:=ft h.sa.d (bu _ _)
theorem iU.li (h:iU R a s t O isL A H):cg R s a:=ay h.row fun _ b e=>.d h.sa.ok b e h.fr
theorem iU.els (h:iU R a s t O isL A H) (b:j∈O.filter isL):(A j).els.length≤5∧A j∈H:=
 have m:=(h.mem (A j)).mp (cr.mpr (bd j b rfl))
 ⟨tz▸(h.pok _ m).c,m⟩
theorem iU.pt (h:iU R a s t O isL A H):gR R t O:=by
 rcases h.t with⟨e,b⟩|⟨b,f,j,_⟩
 ·have l:=((h.parts t (e▸ .head _)).1 b).1;refine cE l.at fun r w k m _=> ?_;exact⟨fun e=>aR (l.ge h.I) (by refine ak e ?_;decide),av ⟨r,w,k,m,e⟩⟩
 ·exact⟨f,aI ⟨b,j⟩⟩
theorem iU.cost (h:iU R a s t O isL A H):∀f,iS a H f→∀j∈O.filter isL,(a.pick f).W*(A j).els.length+2≤ka a H:=fun f e j k=>by
 have b:=(h.els k).1;unfold ka;split
 ·rename_i l;exact ao (dc (k2 (iW (ft (Li h.sa.ok e l) h.W)) b) 2) (bv 97)
 ·exact Bb (ao (Cf h.sa.ok).1 h.W) b (bv _)
theorem iU.mono (h:iU R a s t O isL A H) (x:bL R r) (b:aW r) (z:r.length≤450000):iU r a s t O isL A H:=
 ⟨b,h.sa,h.W,ay h.row fun E e f=>bd E (x.at e) (f.mono x),h.t.imp id fun h=>⟨x.at h.1,h.2⟩,h.parts.mono x,h.i,z,h.pl,h.pok,h.c,h.mem⟩
theorem iU.d (h:iU R a s t O isL A H):mr a O isL A↔H.filter (ek a)≠[]:=by
 rw[uR];exact⟨fun z=>ay z fun j f l=>⟨_,c_.mpr ⟨(h.els f).2,ne.mpr l⟩⟩,fun z=>z.elim fun b k=>by
  refine(c_.mp k).elim fun m n=>ay (cr.mp ((h.mem b).mpr m)) fun j f e=> ?_;exact bd j f (e▸ne.mp n)⟩
theorem iU.g (h:iU R a s t O isL A H):qv a s O isL A↔(H.filter (ek a)).filter (l6 a)≠[]:=by
 have l {j:Nat} (f:j∈O.filter isL):cg R j (A j):=((h.parts j (c_.mp f).1).1 (c_.mp f).2).1;rw[uR];refine⟨fun z=>eB z fun j f o q=> ?_,fun z=>z.elim fun b p=> ?_⟩
 ·have m:=(h.els f).2;exact⟨_,c_.mpr ⟨c_.mpr ⟨m,ne.mpr o⟩,RM.mpr (q.imp (fun q=>cu (e8 (h.pok _ m).ok.c (x2 q))) fun(e:s=j)=>uJ.mpr ((l f).uniq h.I (e▸h.li)))⟩⟩
 ·refine(c_.mp p).elim fun n k=>(c_.mp n).elim fun n r=>ay (cr.mp ((h.mem b).mpr n)) fun j f e=> ?_;subst e;refine gX j f (ne.mp r) ((RM.mp k).imp (fun k=>by rw[dB k];decide) fun k=> ?_);have e:=l f;rw[uJ.mp k] at e;exact h.li.inj h.I e
end
theorem J4 (h:(co a H).length<13) (c:cw a H<26):cw a H≤12:=by
 refine dM (vF (a:=a) (H:=H)) fun d e _=> ?_;by_cases b:1<cw a H
 ·exact iW ((e (d.mpr ⟨b,c⟩)).1▸h)
 ·exact aD (dC b) rfl
theorem Oj:(co a H).length≤26:=by
 refine dM (vF (a:=a) (H:=H)) fun b c _=> ?_;by_cases h:co a H=[]
 ·exact ak h (cA _)
 ·exact ak ((c h).1) (gJ (b.mp h).2)
inductive mM (R:List aj):List Nat→List aK→Prop
 |nil:mM R [] []
 |cons {j:Nat} {b:aK} {ls:List Nat} {H:List aK}:cg R j b→mM R ls H→mM R (j::ls) (b::H)
section
theorem mM.mono (x:bL R r) (h:mM R ls H):mM r ls H:=h.rec .nil fun a _ i=>.cons (a.mono x) i
theorem mM.snoc (h:mM R ls H) (c:cg R j b):mM R (ls++[j]) (H++[b]):=h.rec (.cons c .nil) fun a _ i=>.cons a i
theorem mM.len (h:mM R ls H):ls.length=H.length:=h.rec rfl fun _ _ i=>aS (·+1) i
theorem mM.to (h:mM R ls H):∀j∈ls,∃b∈H,cg R j b:=h.rec (fun _ h=>(by cases h)) fun a _ i=>pp.mpr ⟨(bd _ (cU _) a),fun j c=>ay (i j c) fun b d e=>bd b (e9 _ d) e⟩
theorem mM.fr (h:mM R ls H):∀b∈H,∃j∈ls,cg R j b:=h.rec (fun _ h=>(by cases h)) fun a _ i=>pp.mpr ⟨(bd _ (cU _) a),fun b c=>ay (i b c) fun j d e=>bd j (e9 _ d) e⟩
noncomputable def uS (R:List aj) (j:Nat):aK:=by classical exact if h:∃l,cg R j l then h.choose else⟨[],[],[],[],0⟩
theorem uN (I:aW R) (h:cg R j b):uS R j=b:=by
 have x:∃l,cg R j l:=⟨b,h⟩;unfold uS;exact ak (dif_pos x) (x.choose_spec.uniq I h)
noncomputable def NR (ls:List Nat) (j:Nat):Bool:=ls.contains j
theorem IG (S:fg a) (W:a.W≤20) (row:∃E,R[s]? =ac (.j [ae 12,.j (bf E),ag a.c])∧b5 R E a.els) (d:mM R ls H) (v:1≤H.length) (p:H.length≤8) (P:∀b∈H,ih b) (n:us=[]∨∃i u,us=[i]∧cq R i u)
  (u:MF Q ls us t R O) (w:R.length≤450000):iU R a s t O (NR ls) (uS R) H:=by
 have I:=u.I;have L:=d.len▸p;have U:us.length≤1:=n.elim (fun h=>h▸cA _) fun z=>bK z fun i u h _=>h▸bv _;refine ay (d.fr H[0] (k1 v)) fun o q _=> ?_;have T:=ee.mpr q;have m:=(u.m o).mpr (cG _ q);refine⟨I,S,W,row, ?_,fun j c=>⟨fun h=> ?_,fun h=> ?_⟩,ao u.l (dd L U),w,p,P, ?_,fun l=> ?_⟩
 ·refine u.t.imp (fun e=>⟨e, ?_⟩) fun z=>z.elim fun r x=>⟨r,fun e=>(Cp I r).n2 (aS k6 e),x,o,m,T⟩;rw[e] at m;exact bW.mp m▸T
 ·exact ay (d.to j (ee.mp h)) fun b f k=>ak (uN I k) (⟨k,aD (tz▸(P b f).c) rfl⟩)
 ·refine(dD.mp ((u.m j).mp c)).elim (fun g=>nomatch h.symm.trans (ee.mpr g)) fun g=> ?_;rcases n with e|⟨i,u,e,y⟩<;>rw[e] at g
  ·nomatch g
  ·exact⟨u,List.mem_singleton.mp g▸y⟩
 ·exact Nat.le_trans ((u.nd.sublist List.filter_sublist).length_le_of_subset fun j c=>List.contains_iff_mem.mp (List.mem_filter.mp c).2) L
 ·refine⟨fun h=> ?_,fun h=> ?_⟩
  ·refine ay (List.mem_map.mp h) fun j c e=>ay (d.to j (ee.mp (c_.mp c).2)) fun b f k=> ?_;rw[←e,uN I k];exact f
  ·exact ay (d.fr l h) fun j c f=>cr.mpr ⟨j,c_.mpr ⟨(u.m j).mpr (cG _ c),ee.mpr c⟩,uN I f⟩
end
noncomputable def Mx (ns ms:List Int) (c:b0) (b:Bool):au:=[(96,.l (.c (ns.map ae))),(97,.l (.c (ms.map ae))),(74,bE c),(79,.l (aA b))]
noncomputable def kL (ns ms:List Int) (c:b0) (b:Bool) (a:aK) (H:List aK):au:=Mx ns ms c b++[(20,.l (bM a)),(18,.l (.c (H.map bM))),(1,.l (an 0))]
noncomputable def kO (ns ms:List Int) (c:b0) (b:Bool) (a:aK) (H:List aK) (X:List Nat) (s t:Nat):au:=kL ns ms c b a H++[(32,.l (.c (X.map ag))),(29,.l (ag s)),(19,.l (ag t))]
noncomputable def eo (ns ms:List Int) (c:b0) (b:Bool) (a:aK) (H:List aK) (X:List Nat) (s t:Nat) (ch:Bool):au:=kO ns ms c b a H X s t++[(63,.l (.c (H.map bR))),(95,.l (.c ((co a H).map (d0 a)))),(62,.l (aA ch))]
section
structure NU (d:List aK) (x:List Nat×List aj):Prop where
 I:aW x.2
 z:x.2.length≤16+60*d.length
 l:mM x.2 x.1 d
theorem Hg (p:H.length≤8) (P:∀b∈H,ih b) {G:Prop} (q:∀ls R,NU H (ls,R)→(∀n,6≤n→cc bw (aZ n) (eu 295 [6] 0 59 (H.map bM) (kL ns ms c b a H) [aF dU]) (.h (.c (ls.map ag))) (kL ns ms c b a H) [aF R])→G):G:=
 qJ (N:=(6≤·)) (g:=295) [6] 0 59 bM H (fun x:List Nat×List aj=>x.1.map ag) (fun _=>kL ns ms c b a H) (fun x=>[aF x.2]) NU ([],dU) ⟨OE,a9 ww,.nil⟩ rfl
  (fun D j k x e f l q=>by
   have d:D.length≤8:=ao (by rw[e,bi];exact bu _ _) p;refine ze (J:=[]) f.I (P j (eO e)) (ao f.z (aD (cj (fh 60 d) 16) rfl)) fun t r h M=> ?_;refine q (x.1++[t],r) [ag t] ⟨M.I,by rw[bi];exact ao M.z (dc f.z 60),(f.l.mono M.x).snoc M.li⟩ cd fun n i=> ?_;have h:=h n i;clear q f M P p e d;exact cZ 0 [.call h])
  fun x f w=>q x.1 x.2 f w
theorem G6 (e:2≤n) (p:∀b∈H,ih b):cc bw (aZ n) (eu 295 [10] 0 59 (H.map bM) (kO ns ms c b a H X s t) Y) (.h (.c (H.map bR))) (kO ns ms c b a H X s t) Y:=by
 have C:=fI (n:=n) (g:=295) [10] 0 59 bM H (fun b=>[bR b]) (kO ns ms c b a H X s t) Y fun j d=>by
  have h:=tv (Y:=Y) (p j d).ok.nk (aD (p j d).c rfl) n e;clear p d;exact cZ 0 [.call h]
 rw[←kd] at C;exact C
structure Td (a:aK) (H:List aK) (d:List hx) (ch:Bool):Prop where
 ch:ch=af↔co a H≠[]∧∀f∈d,∃l∈H,db (a.pick f) l
theorem Mi (S:fg a) (D:H.length≤8) (P:∀b∈H,ih b) {G:Prop} (q:∀ch,(ch=af↔hh a H)→(∀n,3≤n→cc bw (aZ n) (dS 295 [13] ah ((co a H).map (d0 a)) (eo ns ms c b a H X s t (aM (0<(co a H).length))) Y) a' (eo ns ms c b a H X s t ch) Y)→G):G:=by
 have⟨E,W,A⟩:=vF (a:=a) (H:=H)
 refine kV (N:=(3≤·)) (g:=295) (b:=ah) [13] (d0 a) (co a H) (fun ch=>eo ns ms c b a H X s t ch) (fun _=>Y) (Td a H) (aM (0<(co a H).length)) ⟨by rw[k0,jf];exact⟨fun h=>⟨h,fun _ h=>nomatch h⟩,fun h=>h.1⟩⟩ rfl
  (fun d f r ch e x Z q=> ?_) fun ch x w=>q ch (x.ch.trans A.symm) w
 have z:iS a H f:=((W (x0 (eO e))).2 f).mp (eO e);have o:(a.pick f).Ok:=z3 S.ok fun p u I k U=>by
  by_cases M:p∈gf a H
  ·have⟨v,Q,m⟩:=(z p).1 M;rw[I] at Q;cases Q;rw[U] at m;exact m
  ·exact nomatch I.symm.trans ((z p).2 M)
 have F:(bm (a.pick f)).length=(bm a).length:=by
  rw[gT,gT,lu];rfl
 have C:=BK (H:=H) (Y:=Y) o (by rw[lu];exact S.d) (by rw[F];exact aD S.small.1 rfl) P D;have L:(H.filter (ek (a.pick f))).length≤16777216:=ao (hY _ _) (aD D rfl);have y:0<(H.filter (ek (a.pick f))).length↔∃l∈H,db (a.pick f) l:=by
  rw[jf,uR];exact k3 fun l=>by rw[c_,ne]
 cases k:((H.filter (ek (a.pick f))).length==0) with
 |true=>
  have R:¬∃l∈H,db (a.pick f) l:=fun h=>aR (y.mpr h) (by rw[dL.mp k];decide);refine q ai ⟨⟨(fun h=>hU h),fun h=>aR (h.2 f (eD _ (cU _))) R⟩⟩ rfl fun n B=> ?_;have C:=C n B;clear y R E W A z o F x q S P;exact bq 0 [.call C,.p (ds:=(H.filter (ek (a.pick f))).map bR) (aB _) L,.x (i:=(H.filter (ek (a.pick f))).length) (j:=0) k]
 |false=>
  have T:=y.mp (x2 (c5.mp k));refine q ch ⟨x.ch.trans ⟨fun h=>⟨h.1,ja h.2 T⟩,fun h=>⟨h.1,fun g V=>h.2 g (cG _ V)⟩⟩⟩ rfl fun n B=> ?_;have C:=C n B;clear y T E W A z o F x q S P;exact bq 0 [.call C,.p (ds:=(H.filter (ek (a.pick f))).map bR) (aB _) L,.x (i:=(H.filter (ek (a.pick f))).length) (j:=0) k]
end
theorem He (o:eC R [] m):eC R [] {m with tel:=ai}:=⟨o.nd,o.kt,o.kok,o.aok,o.len,o.a,o.N⟩
section
theorem IS (h:iU R a s t O isL A H) (k:eC R [] m) (w:d8 m.tw) (v:cw a H<26→m.a+ka a H*(O.filter isL).length*cw a H+1≤20000) (N:cw a H<26→m.N≤60000) (p:m.dp<58) (x:ch=af↔hh a H)
  {G:Prop} (q:∀(g:bh) i,aE 28 256 [.l (an 2),.l (ag s),.l (.c (O.reverse.map ag))] (({m with tel:=ai}:bh).st R) (aA ch) [] (g.st i)→G):G:=by
 have⟨E,y,u⟩:=h.row;have M:=Ls h.mem;have l:(O.reverse.filter isL).length=(O.filter isL).length:=by rw[RI,DP]
 have n {j:Nat} (b:j∈O.reverse.filter isL):j∈O.filter isL:=c_.mpr ⟨x8.mp (c_.mp b).1,(c_.mp b).2⟩;have z:E.length≤50:=ao (a9 (u.len.trans tz)) (aD h.sa.small.1 rfl)
 refine AO (m:={m with tel:=ai}) (R:=R) (Pr:=[]) (E:=E) (O:=O.reverse) (isL:=isL) (A:=A) (X:=.c (O.reverse.map ag)) (c:=ka a H) h.I ⟨He k,w,h.sa.ok,u,z,h.fr,h.sa.h3,fun j b=>⟨?_, ?_⟩,ao (a9 l) (aD h.c rfl),(fun _ h=>nomatch h),fun f B j b=>h.cost f ((vB M).mp B) j (n b),p,aI ⟨rfl,rfl⟩,aD h.R rfl⟩ y (aI rfl) (fun j b=>h.parts j (x8.mp b)) (by rw[DP];exact aD h.i rfl)
  (fun d=>by rw[qR M] at d⊢;rw[l];exact v d) (fun d=>N (by rw[qR M] at d;exact d)) k.N fun g i r C o=>q g i ?_
 ·exact((h.parts j (c_.mp (n b)).1).1 (c_.mp b).2).1
 ·exact aD (h.els (n b)).1 rfl
 ·have e:r=ch:=by rw[ji,o.iff,Df M,x]
  exact e▸C
noncomputable def oT (a:aK) (H:List aK) (ch:Bool):Bool:=(((H.filter (ek a)).filter (l6 a)).length==0)&&(aM (0<(H.filter (ek a)).length)||(ch&&(a.c==0)))
theorem MH:(l.length==0)=af↔¬l≠[]:=by rw[dL,fs,Classical.not_not]
theorem Ot (h:iU R a s t O isL A H) (y:R.length≤5000) (w:(co a H).length<13) (I:ch=af↔hh a H)
  {G:Prop} (q:∀(m:bh) n,aE 54 4921 [.l (an 2),.l (ag s),.l (ag t)] (fc.st R) (aA (aM (0<(H.filter (ek a)).length)||ch)) [] (m.st n)→aE 1 1362 [.l (an 3)] (m.st n) (.c (if oT a H ch then[ae 3] else[])) [] (m.st n)→
   iU n a s t O isL A H→eC n [] m→d8 m.tw→(cw a H<26→m.a+ka a H*(O.filter isL).length*cw a H+1≤20000)→(cw a H<26→m.N≤60000)→m.dp<58→G):G:=by
 have⟨E,M,B⟩:=h.row;have z:E.length≤50:=ao (a9 (B.len.trans tz)) (aD h.sa.small.1 rfl);have o:cw a H<26→ka a H*(O.filter isL).length*cw a H≤9352:=fun d=>z5 h.c (by decide) (J4 w d);have i:102*O.length≤918:=fh 102 h.i;refine E3 (R:=R) (c0:=102) (c:=ka a H) h.I h.sa.ok M B z h.fr h.sa.h3 h.t h.parts (aD h.i rfl) (aD y rfl) (fun j u=>Bb h.W (h.els u).1 (bv _)) (aD (b3 i) rfl) (fun f N j u=>h.cost f ((vB h.mem).mp N) j u) (fun d=>by
  rw[qR h.mem] at d⊢;exact aD (dc (dd i (o d)) 2) rfl) fun m n r C Q=> ?_
 have D:=Q.iff;have v:=Q.no;have x:=Q.yes;have g:=Q.g.l;have F:=Q.g.j;rw[Df h.mem,←I,h.d] at D v x;rw[h.g] at v x;rw[qR h.mem] at g F;have L (d:cw a H<26):102*O.length+(ka a H*(O.filter isL).length*cw a H+2)≤10272:=dd i (dc (o d) 2);have p {l:List aK}:0<l.length↔l≠[]:=jf;refine q m n ?_ ?_ (h.mono Q.x Q.I (ao Q.z (aD (dc y _) rfl))) Q.g.ok Q.w (fun d=> ?_) (fun d=> ?_) (by rw[Q.g.dp];decide)
 ·have e:r=(aM (0<(H.filter (ek a)).length)||ch):=by rw[ji,D,dK,k0,p]
  exact e▸C
 ·have e:(if m.N=0 then[] else[ae 3])=if oT a H ch then[ae 3] else[]:=by
   have k:oT a H ch=af↔(¬(H.filter (ek a)).filter (l6 a)≠[]∧(H.filter (ek a)≠[]∨ch=af∧a.c=0)):=by
    unfold oT;rw[fu,dK,fu,k0,MH,p,dL]
   by_cases b:oT a H ch=af
   ·rw[aJ b,aL (x (k.mp b))]
   ·rw[aL b,aJ (v fun h=>b (k.mpr h))]
  exact e▸HQ Q.g.ok.N
 ·exact aD (b3 (dd (show m.a≤10272 from ao g (ao (a9 (jI _)) (L d))) (o d))) rfl
 ·exact ao F (ao (a9 (jI _)) (aD (L d) rfl))
end
section
variable{ns ms:List Int} {O:List Nat}
theorem Ic (d:2≤n) {DL:List aK} (S:fg a) (p:∀b∈DL,ih b):cc bw (aZ n) (eu 295 [18,0,1] 0 58 (DL.map bR) (eo ns ms c b a H X s t ch++[(27,.l (an 2)),(99,.l (.c (DL.map bR)))]) Y) (.h (.c ((DL.filter (l6 a)).map bR))) (eo ns ms c b a H X s t ch++[(27,.l (an 2)),(99,.l (.c (DL.map bR)))]) Y:=by
 rw[←ng];refine fI [18,0,1] 0 58 bR DL _ _ Y fun x h=> ?_;have E:(wk.k a6 (bR x) (bR a)).e=ac (nf x a):=M_ S.ok (p x h).ok;have C:aE 2 286 [.l (bM a)] Y (bR a) [] Y:=tv S.kk (aD S.small.1 rfl);have C:=C n d;unfold l6;rw[show aM (x.c=1)=(x.c==1) from rfl];clear S p h;cases k:(x.c==1) with
 |true=>exact cZ 1 [.x (i:=x.c) (j:=1) k]
 |false=>
  cases e:nf x a with
  |true=>
   rw[e] at E;exact cZ 1 [.x (i:=x.c) (j:=1) k,.call C,.z E]
  |false=>
   rw[e] at E;exact cZ 1 [.x (i:=x.c) (j:=1) k,.call C,.z E]
theorem Mm:cc bw (aZ n) (eu 295 [20] 0 59 (O.map ag) (eo ns ms c b a H X s t ch++[(27,.l (an 2))]) Y) (.h (.c (O.map ag))) (eo ns ms c b a H X s t ch++[(27,.l (an 2))]) Y:=by
 have C:=fI (n:=n) (g:=295) [20] 0 59 ag O (fun i=>[ag i]) (eo ns ms c b a H X s t ch++[(27,.l (an 2))]) Y fun x _=>by exact cZ 0 []
 rw[←kd] at C;exact C
theorem Nt:cc bw (aZ n) (eu 295 [20] 0 59 (O.map ag) (eo ns ms c b a H X s t ch++[(27,.l (an 2)),(99,x),(38,y),(40,z)]) Y) (.h (.c (O.map ag))) (eo ns ms c b a H X s t ch++[(27,.l (an 2)),(99,x),(38,y),(40,z)]) Y:=by
 have C:=fI (n:=n) (g:=295) [20] 0 59 ag O (fun i=>[ag i]) (eo ns ms c b a H X s t ch++[(27,.l (an 2)),(99,x),(38,y),(40,z)]) Y fun x _=>by exact cZ 0 []
 rw[←kd] at C;exact C
theorem IY:cc bw (aZ n) (eu 295 [0] 0 59 (ms.map ae) [(96,.l (.c (ns.map ae)))] []) (.h (.c (ms.map ae))) [(96,.l (.c (ns.map ae)))] []:=by
 have c:=fI (n:=n) (g:=295) [0] 0 59 ae ms (fun i=>[ae i]) [(96,.l (.c (ns.map ae)))] [] fun x _=>by exact cZ 0 []
 rw[←kd] at c;exact c
end
inductive KT (ms:List Int) (v:Nat):Bool→Prop
 |no:(v==7)=false→KT ms v false
 |yes:(v==7)=true→KT ms v (decide (12<ms.length))
inductive CB (n u:Nat) (ls:List Nat) (c4:b0) (R1:List aj):List Nat→b0→List aj→Prop
 |no:(u==0)=false→CB n u ls c4 R1 [] c4 R1
 |yes {w x:Nat} {c:b0} {R2:List aj}:(u==0)=true→aZ n 277 [.a c4,.l (ag 8)] [aF R1] (ag w) [c] [aF R1]→aZ n 292 [.l (.inst 0),.l (a5 [w])] [aF R1] (ag x) [] [aF R2]→CB n u ls c4 R1 [x] c R2
structure qN (n:Nat) (a:aK) (H DL L:List aK) (s t:Nat) (r:Bool) (o:List aj) (R4:List aj) (m:bh) (R5:List aj) (F:au):Prop where
 d:aZ n 286 [.l (bM a)] (fc.st R4) (bR a) [] (fc.st R4)
 c:aZ n 291 [.l (bR a),.l (.c (H.map bR))] (fc.st R4) (.c (DL.map bR)) [] (fc.st R4)
 i:(DL.map bR).length≤b4
 w:cc bw (aZ n) (eu 295 [18,0,1] 0 58 (DL.map bR) (F++[(27,.l (an 2)),(99,.l (.c (DL.map bR)))]) (fc.st R4)) (.h (.c (L.map bR))) (F++[(27,.l (an 2)),(99,.l (.c (DL.map bR)))]) (fc.st R4)
 f:aZ n 4921 [.l (an 2),.l (ag s),.l (ag t)] (fc.st R4) (aA r) [] (m.st R5)
 b:DL.length≤16777216
 e:L.length≤16777216
 g:aZ n 1362 [.l (an 3)] (m.st R5) (.c o) [] (m.st R5)
inductive sA (n:Nat) (a:aK) (H:List aK) (s t:Nat) (ch:Bool) (R4:List aj) (F:au):bh→List aj→au→Prop
 |no:decide ((co a H).length<13)=false→sA n a H s t ch R4 F fc R4 []
 |f {DL L:List aK} {m:bh} {R5:List aj}:decide ((co a H).length<13)=true→qN n a H DL L s t true [] R4 m R5 F→decide (0<DL.length)=true→(L.length==0)=false→sA n a H s t ch R4 F m R5 [(99,.l (.c (DL.map bR))),(38,.own (.c (L.map bR))),(40,.l (.bool false))]
 |e {DL L:List aK} {m:bh} {R5:List aj}:decide ((co a H).length<13)=true→qN n a H DL L s t true [.int 3] R4 m R5 F→decide (0<DL.length)=true→(L.length==0)=true→sA n a H s t ch R4 F m R5 [(99,.l (.c (DL.map bR))),(38,.own (.c (L.map bR))),(40,.l (.bool true))]
 |b {DL L:List aK} {m:bh} {R5:List aj}:ch=false→decide ((co a H).length<13)=true→qN n a H DL L s t false [] R4 m R5 F→decide (0<DL.length)=false→(L.length==0)=true→sA n a H s t ch R4 F m R5 [(99,.l (.c (DL.map bR))),(38,.own (.c (L.map bR))),(40,.l (.bool false))]
 |d {DL L:List aK} {m:bh} {R5:List aj}:ch=true→decide ((co a H).length<13)=true→qN n a H DL L s t true [.int 3] R4 m R5 F→decide (0<DL.length)=false→(L.length==0)=true→(a.c==0)=true→sA n a H s t ch R4 F m R5 [(99,.l (.c (DL.map bR))),(38,.own (.c (L.map bR))),(40,.l (.bool true))]
 |c {DL L:List aK} {m:bh} {R5:List aj}:ch=true→decide ((co a H).length<13)=true→qN n a H DL L s t true [] R4 m R5 F→decide (0<DL.length)=false→(L.length==0)=true→(a.c==0)=false→sA n a H s t ch R4 F m R5 [(99,.l (.c (DL.map bR))),(38,.own (.c (L.map bR))),(40,.l (.bool false))]
section
variable{ns ms:List Int} {c1 c2 c3 c4 c':b0} {b ch:Bool} {a:aK} {H:List aK} {ls us O:List Nat} {s t u v n:Nat} {R1 R2 R3 R4 R5 R6:List aj} {m m2:bh} {ex:au}
noncomputable def v4:iR:=(qU 295).getD ⟨[],[],[]⟩
noncomputable abbrev lq (k:Nat) (L:au) (Y:ar):aT:=(eY bw 60).ss (v4.body.drop k) L Y dW
variable{Z:d1→Prop}
theorem C3 {q:iR} {A:List fO} {t:aT} {d:aj} {cs:List b0} {Y:ar} {X:dT} (k:Nat) (s:List (cN X)) (h:v6 q A (nB t (lH k s))=ac (lw s,d,ac cs,Y)):aQ X (tE q A d cs Y) t:=(Ab h).elim fun f z=>rT k s z.1 z.2
theorem Pf (e:f7 ah (ac 40) (.c (ns.map ae))=ac (.c (ms.map ae))) (I:(ms.map ae).length≤b4) (l:ms.length≤16777216)
  (T:aZ n 277 [.a (qE 0 ms),.l (ag 8)] [] (ag v) [c1] []) (h:KT ms v b)
  (c:aZ n 280 [.a c1,.l (aA b)] [] (bM a) [c2] [])
  (d:aZ n 294 [.a c2,.l (bM a)] [] (.c (H.map bM)) [c3] [])
  (f:aZ n 3240 [.l (an 0)] [⟨156,[]⟩] a4 [] [aF dU])
  (z:aQ (dw bw (aZ n) 60) Z (lq 6 (kL ns ms c3 b a H) [aF dU])):aQ (dw bw (aZ n) 60) Z (lq 0 [(96,.l (.c (ns.map ae)))] []):=by
 have w:=IY (n:=n) (ns:=ns) (ms:=ms);cases h with
 |no k=>exact jT 0 1048576 [.cut e,.le I,.sub w,.call T,.x (i:=v) (j:=7) k,.call c,.call d,.call f] (by kernel_rfl) z
 |yes k=>exact jT 0 1048576 [.cut e,.le I,.sub w,.call T,.x (i:=v) (j:=7) k,.p (ds:=ms.map ae) (aB _) l,.y (i:=ms.length) (j:=12) rfl,.call c,.call d,.call f] (by kernel_rfl) z
theorem NH (I:(H.map bM).length≤b4)
  (W:cc bw (aZ n) (eu 295 [6] 0 59 (H.map bM) (kL ns ms c3 b a H) [aF dU]) (.h (.c (ls.map ag))) (kL ns ms c3 b a H) [aF R1])
  (l:(ls.map ag).length≤1000000)
  (c:aZ n 277 [.a c3,.l (ag 3)] [aF R1] (ag u) [c4] [aF R1]) (h:CB n u ls c4 R1 us c' R2)
  (d:aZ n 293 [.l (an 0),.l (bM a)] [aF R2] (ag s) [] [aF R3])
  (T:aZ n 171 [.l (an 0),.l (.c ((ls++us).map ag))] [aF R3] (ag t) [] [aF R4])
  (z:aQ (dw bw (aZ n) 60) Z (lq 10 (kO ns ms c' b a H (ls++us) s t) [aF R4])):aQ (dw bw (aZ n) 60) Z (lq 6 (kL ns ms c3 b a H) [aF dU]):=by
 cases h with
 |no k=>rw[c8] at T z;exact jT 0 0 [.le I,.sub W,.call c,.x (i:=u) (j:=0) k,.call d,.call T] (by kernel_rfl) z
 | @yes w x _ _ k e f=>exact jT 0 0 [.le I,.sub W,.call c,.x (i:=u) (j:=0) k,.call e,.call f,.u (show fJ 3 (.c (ls.map ag)) [ag x]=ac (a4,.c ((ls++[x]).map ag)) by rw[cd];exact kK l),.call d,.call T] (by kernel_rfl) z
theorem PW (I:(H.map bM).length≤b4)
  (w:cc bw (aZ n) (eu 295 [10] 0 59 (H.map bM) (kO ns ms c' b a H O s t) [aF R4]) (.h (.c (H.map bR))) (kO ns ms c' b a H O s t) [aF R4])
  (T:aZ n 290 [.l (bM a),.l (.c (H.map bR))] [aF R4] (.c ((co a H).map (d0 a))) [] [aF R4])
  (l:(co a H).length≤16777216)
  (W:cc bw (aZ n) (dS 295 [13] ah ((co a H).map (d0 a)) (eo ns ms c' b a H O s t (aM (0<(co a H).length))) [aF R4]) a' (eo ns ms c' b a H O s t ch) [aF R4])
  (c:aZ n 6280 [.l (an 1),.l (an 0)] [aF R4,⟨232,[]⟩] a4 [] [aF R4,bF])
  (d:aZ n 4920 [.l (an 2),.l (an 1),.l (ae 1)] [aF R4,bF,⟨198,[]⟩] a4 [] [aF R4,bF,gZ [],es 0])
  (e:aZ n 274 [.l (an 2)] [aF R4,bF,gZ [],es 0] a4 [] [aF R4,bF,gZ [(ae 4,an 4)],es 0,⟨273,[]⟩])
  (f:aZ n 259 [.l (an 2)] [aF R4,bF,gZ [(ae 4,an 4)],es 0,⟨273,[]⟩] a4 [] [aF R4,bF,gZ [(ae 4,an 4),(ae 12,an 5)],es 0,⟨273,[]⟩,⟨257,[]⟩])
  (g:aZ n 258 [.l (an 2)] [aF R4,bF,gZ [(ae 4,an 4),(ae 12,an 5)],es 0,⟨273,[]⟩,⟨257,[]⟩] a4 [] (fc.st R4))
  (z:aQ (dw bw (aZ n) 60) Z (lq 18 (eo ns ms c' b a H O s t ch++[(27,.l (an 2))]) (fc.st R4))):aQ (dw bw (aZ n) 60) Z (lq 10 (kO ns ms c' b a H O s t) [aF R4]):=
 jT 0 0 [.le I,.sub w,.call T,.p (ds:=(co a H).map (d0 a)) (aB _) l,.y (i:=(co a H).length) (j:=0) rfl,.sub W,.call c,.call d,.call e,.call f,.call g] (by kernel_rfl) z
theorem Mu (l:(co a H).length≤16777216) (p:sA n a H s t ch R4 (eo ns ms c' b a H O s t ch) m R5 ex)
  (z:aQ (dw bw (aZ n) 60) Z (lq 19 (eo ns ms c' b a H O s t ch++(27,.l (an 2))::ex) (m.st R5))):aQ (dw bw (aZ n) 60) Z (lq 18 (eo ns ms c' b a H O s t ch++[(27,.l (an 2))]) (fc.st R4)):=by
 cases p with
 |no w=>exact jT 0 0 [.p (ds:=(co a H).map (d0 a)) (aB _) l,.A (i:=(co a H).length) (j:=13) w] (by kernel_rfl) z
 | @f L g _ _ w q k o=>exact jT 5 17729624997888 [.p (ds:=(co a H).map (d0 a)) (aB _) l,.A (i:=(co a H).length) (j:=13) w,.call q.d,.call q.c,.le q.i,.sub q.w,.call q.f,.p (ds:=L.map bR) (aB _) q.b,.y (i:=L.length) (j:=0) k,.p (ds:=g.map bR) (aB _) q.e,.x (i:=g.length) (j:=0) o,.call q.g] (by kernel_rfl) z
 | @e L g _ _ w q k o=>exact jT 6 4521329252368384 [.p (ds:=(co a H).map (d0 a)) (aB _) l,.A (i:=(co a H).length) (j:=13) w,.call q.d,.call q.c,.le q.i,.sub q.w,.call q.f,.p (ds:=L.map bR) (aB _) q.b,.y (i:=L.length) (j:=0) k,.p (ds:=g.map bR) (aB _) q.e,.x (i:=g.length) (j:=0) o,.p (ds:=L.map bR) (aB _) q.b,.y (i:=L.length) (j:=0) k,.call q.g] (by kernel_rfl) z
 | @b L g _ _ h w q k o=>subst h;exact jT 7 9024928879738880 [.p (ds:=(co a H).map (d0 a)) (aB _) l,.A (i:=(co a H).length) (j:=13) w,.call q.d,.call q.c,.le q.i,.sub q.w,.call q.f,.p (ds:=L.map bR) (aB _) q.b,.y (i:=L.length) (j:=0) k,.p (ds:=g.map bR) (aB _) q.e,.x (i:=g.length) (j:=0) o,.p (ds:=L.map bR) (aB _) q.b,.y (i:=L.length) (j:=0) k,.call q.g] (by kernel_rfl) z
 | @d L g _ _ h w q k o r=>subst h;exact jT 8 13528528507109376 [.p (ds:=(co a H).map (d0 a)) (aB _) l,.A (i:=(co a H).length) (j:=13) w,.call q.d,.call q.c,.le q.i,.sub q.w,.call q.f,.p (ds:=L.map bR) (aB _) q.b,.y (i:=L.length) (j:=0) k,.p (ds:=g.map bR) (aB _) q.e,.x (i:=g.length) (j:=0) o,.p (ds:=L.map bR) (aB _) q.b,.y (i:=L.length) (j:=0) k,.x (i:=a.c) (j:=0) r,.call q.g] (by kernel_rfl) z
 | @c L g _ _ h w q k o r=>subst h;exact jT 8 13528528507109376 [.p (ds:=(co a H).map (d0 a)) (aB _) l,.A (i:=(co a H).length) (j:=13) w,.call q.d,.call q.c,.le q.i,.sub q.w,.call q.f,.p (ds:=L.map bR) (aB _) q.b,.y (i:=L.length) (j:=0) k,.p (ds:=g.map bR) (aB _) q.e,.x (i:=g.length) (j:=0) o,.p (ds:=L.map bR) (aB _) q.b,.y (i:=L.length) (j:=0) k,.x (i:=a.c) (j:=0) r,.call q.g] (by kernel_rfl) z
theorem JN {F:au} (h:sA n a H s t ch R4 F m R5 ex):ex=[]∨∃x y z,ex=[(99,x),(38,y),(40,z)]:=by
 induction h using sA.casesOn with
 |no=>exact av rfl
 |_=>exact aI ⟨_,_,_,rfl⟩
theorem H1 (h:ex=[]∨∃x y z,ex=[(99,x),(38,y),(40,z)]) (T:aZ n 165 [.l (an 0),.l (ag t)] (({m with tel:=ai}:bh).st R5) (.j (O.map ag)) [] (({m with tel:=ai}:bh).st R5))
  (i:(O.map ag).length≤b4)
  (w:cc bw (aZ n) (eu 295 [20] 0 59 (O.map ag) (eo ns ms c' b a H us s t ch++(27,.l (an 2))::ex) (({m with tel:=ai}:bh).st R5)) (.h (.c (O.map ag))) (eo ns ms c' b a H us s t ch++(27,.l (an 2))::ex) (({m with tel:=ai}:bh).st R5))
  (r:fJ 6 (.c (O.map ag)) []=ac (a4,.c (O.reverse.map ag)))
  (c:aZ n 256 [.l (an 2),.l (ag s),.l (.c (O.reverse.map ag))] (({m with tel:=ai}:bh).st R5) (aA ch) [] (m2.st R6))
  (E:(wk.k a6 (aA ch) (aA ch)).e=ac af):aQ (dw bw (aZ n) 60) (tE v4 [.l (.c (ns.map ae))] (aA af) [] (m2.st R6)) (lq 19 (eo ns ms c' b a H us s t ch++(27,.l (an 2))::ex) (m.st R5)):=by
 rcases h with e|⟨x,y,z,e⟩<;>subst e
 ·exact C3 0 [.call T,.le i,.sub w,.u r,.call c,.z E] (by kernel_rfl)
 ·exact C3 0 [.call T,.le i,.sub w,.u r,.call c,.z E] (by kernel_rfl)
set_option maxHeartbeats 0 in
theorem NI (e:f7 ah (ac 40) (.c (ns.map ae))=ac (.c (ms.map ae))) (I:(ms.map ae).length≤b4) (L:ms.length≤16777216)
  (T:aZ n 277 [.a (qE 0 ms),.l (ag 8)] [] (ag v) [c1] []) (c:KT ms v b)
  (d:aZ n 280 [.a c1,.l (aA b)] [] (bM a) [c2] [])
  (f:aZ n 294 [.a c2,.l (bM a)] [] (.c (H.map bM)) [c3] [])
  (g:aZ n 3240 [.l (an 0)] [⟨156,[]⟩] a4 [] [aF dU])
  (i:(H.map bM).length≤b4)
  (w:cc bw (aZ n) (eu 295 [6] 0 59 (H.map bM) (kL ns ms c3 b a H) [aF dU]) (.h (.c (ls.map ag))) (kL ns ms c3 b a H) [aF R1])
  (j:(ls.map ag).length≤1000000)
  (k:aZ n 277 [.a c3,.l (ag 3)] [aF R1] (ag u) [c4] [aF R1]) (o:CB n u ls c4 R1 us c' R2)
  (p:aZ n 293 [.l (an 0),.l (bM a)] [aF R2] (ag s) [] [aF R3])
  (q:aZ n 171 [.l (an 0),.l (.c ((ls++us).map ag))] [aF R3] (ag t) [] [aF R4])
  (W:cc bw (aZ n) (eu 295 [10] 0 59 (H.map bM) (kO ns ms c' b a H (ls++us) s t) [aF R4]) (.h (.c (H.map bR))) (kO ns ms c' b a H (ls++us) s t) [aF R4])
  (x:aZ n 290 [.l (bM a),.l (.c (H.map bR))] [aF R4] (.c ((co a H).map (d0 a))) [] [aF R4])
  (l:(co a H).length≤16777216)
  (y:cc bw (aZ n) (dS 295 [13] ah ((co a H).map (d0 a)) (eo ns ms c' b a H (ls++us) s t (aM (0<(co a H).length))) [aF R4]) a' (eo ns ms c' b a H (ls++us) s t ch) [aF R4])
  (z:aZ n 6280 [.l (an 1),.l (an 0)] [aF R4,⟨232,[]⟩] a4 [] [aF R4,bF])
  (A:aZ n 4920 [.l (an 2),.l (an 1),.l (ae 1)] [aF R4,bF,⟨198,[]⟩] a4 [] [aF R4,bF,gZ [],es 0])
  (B:aZ n 274 [.l (an 2)] [aF R4,bF,gZ [],es 0] a4 [] [aF R4,bF,gZ [(ae 4,an 4)],es 0,⟨273,[]⟩])
  (F:aZ n 259 [.l (an 2)] [aF R4,bF,gZ [(ae 4,an 4)],es 0,⟨273,[]⟩] a4 [] [aF R4,bF,gZ [(ae 4,an 4),(ae 12,an 5)],es 0,⟨273,[]⟩,⟨257,[]⟩])
  (G:aZ n 258 [.l (an 2)] [aF R4,bF,gZ [(ae 4,an 4),(ae 12,an 5)],es 0,⟨273,[]⟩,⟨257,[]⟩] a4 [] (fc.st R4))
  (h:sA n a H s t ch R4 (eo ns ms c' b a H (ls++us) s t ch) m R5 ex)
  (N:aZ n 165 [.l (an 0),.l (ag t)] (({m with tel:=ai}:bh).st R5) (.j (O.map ag)) [] (({m with tel:=ai}:bh).st R5))
  (P:(O.map ag).length≤b4)
  (Q:cc bw (aZ n) (eu 295 [20] 0 59 (O.map ag) (eo ns ms c' b a H (ls++us) s t ch++(27,.l (an 2))::ex) (({m with tel:=ai}:bh).st R5)) (.h (.c (O.map ag))) (eo ns ms c' b a H (ls++us) s t ch++(27,.l (an 2))::ex) (({m with tel:=ai}:bh).st R5))
  (r:fJ 6 (.c (O.map ag)) []=ac (a4,.c (O.reverse.map ag)))
  (R:aZ n 256 [.l (an 2),.l (ag s),.l (.c (O.reverse.map ag))] (({m with tel:=ai}:bh).st R5) (aA ch) [] (m2.st R6))
  (E:(wk.k a6 (aA ch) (aA ch)).e=ac af):
  o4 bw qU (n+1) 295 [.l (.c (ns.map ae))] [] (aA af) [] (m2.st R6):=
 ⟨v4,[(96,.l (.c (ns.map ae)))],by kernel_rfl,rfl,Pf e I L T c d f g (NH i w j k o p q (PW i W x l y z A B F G (Mu l h (H1 (JN h) N P Q r R E))))⟩
end
section
theorem Lx (I:aW r) (f:r.length≤900000) (D:gF c) {G:Prop} (q:∀us C R,CB 59 u ls c r us C R→aW R→bL r R→R.length≤r.length+10→(us=[]∨∃i u,us=[i]∧cq R i u)→G):G:=by
 induction a:(u==0) with
 |false=>exact q [] c r (.no a) I .f (bu _ _) (av rfl)
 |true=>
  refine fG (n:=8) D (aY rfl) [aF r] fun w g t b d=> ?_;have k:e0 [w]:=⟨Aw (px b),fun h=>aR (bW.mp h▸b) (gI 8)⟩;refine wD (J:=[]) I k f fun x R O T e X z p=>q [x] g R (.yes a (t 59 (aY rfl)) (T 59 (aY rfl))) e X z (aI (cL x w rfl (?_)));rcases p.c with⟨v,j,_,l⟩|⟨_,m⟩
  ·exact(List.cons.inj j).1▸l
  ·exact absurd (Nat.le_trans m (p.ids_le e)) (show¬2≤1 by decide)
end
section
theorem Jd (h:iU R a s t O isL A H) (B:R.length≤5000) (F:ch=af↔hh a H)
  {G:Prop} (q:∀(m:bh) i e,sA 59 a H s t ch R (eo ns ms c b a H X s t ch) m i e→iU i a s t O isL A H→eC i [] m→d8 m.tw→(cw a H<26→m.a+ka a H*(O.filter isL).length*cw a H+1≤20000)→(cw a H<26→m.N≤60000)→m.dp<58→(e=[]∨∃x y z,e=[(99,x),(38,y),(40,z)])→G):G:=by
 induction j:aM ((co a H).length<13) with
 |false=>
  exact q fc R [] (.no j) h fc.ok trivial (fun g=>(aD (dc (cj (z5 h.c (aY rfl) (iW g)) 0) 1) rfl)) (fun _=>cA _) (aY rfl) (av rfl)
 |true=>
  have d:(H.filter (ek a)).length≤8:=ao (hY _ _) h.pl;have l:((H.filter (ek a)).filter (l6 a)).length≤8:=ao (hY _ _) d;have I:aE 2 286 [.l (bM a)] (fc.st R) (bR a) [] (fc.st R):=tv h.sa.kk (aD h.sa.small.1 rfl);have M:=BK (Y:=fc.st R) h.sa.ok h.sa.d (aD h.sa.small.1 rfl) h.pok h.pl;have w:=Ic (n:=59) (ns:=ns) (ms:=ms) (c:=c) (b:=b) (H:=H) (X:=X) (s:=s) (t:=t) (ch:=ch) (Y:=fc.st R) (DL:=H.filter (ek a)) (aY rfl) h.sa fun x P=>h.pok x (c_.mp P).1;refine Ot h B (dB j) F fun m i U v S V T W N D=> ?_;unfold oT at v;have Z:=hY (l6 a) (H.filter (ek a));generalize H.filter (ek a)=DL at*;generalize DL.filter (l6 a)=L at*
  have Q (r:Bool) (o:List aj) (E:(aM (0<DL.length)||ch)=r) (α:(if((L.length==0)&&(aM (0<DL.length)||(ch&&(a.c==0))))=af then[ae 3] else[])=o):qN 59 a H DL L s t r o R m i (eo ns ms c b a H X s t ch):=
   ⟨I 59 (aY rfl),M 59 (aY rfl),by rw[aB];exact aD d rfl,w,E▸U 59 (aY rfl),aD d rfl,aD l rfl,α▸v 59 (aY rfl)⟩
  have f {e:au} (p:sA 59 a H s t ch R (eo ns ms c b a H X s t ch) m i e) (β:∃x y z,e=[(99,x),(38,y),(40,z)]):G:=q m i e p S V T W N D (aI β);induction k:aM (0<DL.length) with
  |true=>
   induction C:(L.length==0) with
   |false=>exact f (.f j (Q af [] (by rw[k];rfl) (by rw[C];rfl)) k C) ⟨_,_,_,rfl⟩
   |true=>exact f (.e j (Q af [ae 3] (by rw[k];rfl) (by rw[C,k];rfl)) k C) ⟨_,_,_,rfl⟩
  |false=>
   have C:=dL.mpr (rx.mp (ao Z (dC (rl k))));rcases Re ch with g|g
   ·induction u:(a.c==0) with
    |true=>exact f (.d g j (Q af [ae 3] (by rw[k,g];rfl) (by rw[C,k,g,u];rfl)) k C u) ⟨_,_,_,rfl⟩
    |false=>exact f (.c g j (Q af [] (by rw[k,g];rfl) (by rw[C,k,g,u];rfl)) k C u) (AP _ _ _ rfl)
   ·exact f (.b g j (Q ai [] (by rw[k,g];rfl) (by refine ak C (ak k (ak g ?_));rfl)) k C) (AP _ _ _ rfl)
end
theorem FB {ns:List Int} (a₈:ns.length≤63):∃st',aZ 60 295 [.l (.c (ns.map ae))] [] (aA af) [] st':=by
 have Q:f7 ah (ac 40) (.c (ns.map ae))=ac (.c ((ns.take 40).map ae)):=(vU).trans (by rw[rq]);have A:(ns.take 40).length≤40:=List.length_take_le _ _;generalize ns.take 40=ms at Q A;have I:(ms.map ae).length≤b4:=by rw[aB];exact aD A rfl
 refine fG (n:=8) (cL 0 ms A rfl) (aY rfl) [] fun v η T _ D=> ?_;have⟨b,θ⟩:∃b,KT ms v b:=by
  induction k:(v==7) with
  |false=>exact⟨_,.no k⟩
  |true=>exact⟨_,.yes k⟩
 have ι:u9 η [] b:=by
  exact b.rec (AH D []) (FP D [])
 refine ι fun a a₉ κ f W d=>LD d f [] fun H μ ν V p P ξ=>Hg (ns:=ns) (ms:=ms) (c:=μ) (b:=b) (a:=a) p P fun ls r B w=>fG (n:=3) ξ (aY rfl) [aF r] fun u b₀ ο _ π=> ?_;have L:=B.l.len▸p;have α:=ao B.z (cj (fh 60 p) 16);refine Lx (u:=u) (ls:=ls) B.I (aD α rfl) π fun F C b₁ ρ σ τ Z υ=> ?_;have Z:=ao Z (dc α 10);refine ze (J:=[]) σ f.b (aD Z rfl) fun s φ χ M=> ?_;have β:=ao M.z (dc Z 60);have G:=B.l.mono (τ.trans M.x);have γ:F=[]∨∃i u,F=[i]∧cq φ i u:=υ.imp id fun z=>bK z fun i u g q=>cL i u g (q.mono M.x);refine OQ (J:=[]) M.I (fun j ψ=>ay (G.to j ψ) fun b _ h=>⟨b,h⟩) (fun e=>aR V (by rw[←G.len,show ls=[] from e];exact gI 0)) γ (aD L rfl) (aD β rfl) fun t R O ω U=> ?_;have δ:=ao U.z (b3 β);have S:=IG f W (ay (M.row (ft f.d (bu _ _))) fun E g q=>bd E (U.x.at g) (q.mono U.x)) (G.mono U.x) V p P (γ.imp id fun z=>bK z fun i u g q=>cL i u g (q.mono U.x)) U (aD δ rfl);refine Mi (ns:=ns) (ms:=ms) (c:=C) (b:=b) (X:=ls++F) (s:=s) (t:=t) (Y:=[aF R]) f p P fun a₀ ε a₁=>Jd (ns:=ns) (ms:=ms) (c:=C) (b:=b) (X:=ls++F) S (aD δ rfl) ε fun m b₂ b₃ a₂ ζ o a₃ a₄ N a₅ a₆=> ?_;refine IS ζ o a₃ a₄ N a₅ ε fun b₄ b₅ a₇=>⟨_,NI Q I (aD A rfl) (T 59 (aY rfl)) θ (κ 59 (aY rfl)) (ν 59 (aY rfl)) (GA 59 (aY rfl)) (by rw[aB];exact aD p rfl) (w 59 (aY rfl)) (by rw[aB];exact aD L rfl) (ο 59 (aY rfl)) ρ (χ 59 (aY rfl)) (ω 59 (aY rfl)) (G6 (aY rfl) P) ((Jv (Y:=[aF R]) f P p) 59 (aY rfl)) (aD Oj rfl) (a₁ 59 (aY rfl)) (HV 59 (aY rfl)) (Gi 59 (aY rfl)) (G2 59 (aY rfl)) (PZ 59 (aY rfl)) (Lf 59 (aY rfl)) a₂ (jo ζ.pt 59 (aY rfl)) (by rw[aB];exact aD S.i rfl) ?_ (aS (fun l=>ac (a4,b0.c l)) (Sa ..).symm) (a₇ 59 (aY rfl)) (by induction a₀<;>rfl)⟩;rcases a₆ with e|⟨x,y,z,e⟩<;>refine ak e ?_
 ·exact Mm
 ·exact Nt
open PySem.Calls PyProof.Rows PySem.Spec PySem.W
structure Tg where
 a:List PySem.Expr:=[]
 b:Nat:=0
 sc:Scope:=⟨k4,[],ai,ai,[]⟩
 c:Option (br×Pos):=ah
 un:Bool:=ai
noncomputable def fK:c6→Tg
 |.Name x p=>{c:=ac (x,p)}
 |.Constant _ k _=>{b:=k}
 |.BoolOp _ V _=>{a:=V}
 |.BinOp l _ r _=>{a:=[l,r]}
 |.UnaryOp _ x _=>{a:=[x],un:=af}
 |.IfExp t B e _=>{a:=[t,B,e]}
 |.ListComp e [⟨t,I,d,_⟩] s _=>{a:=e::t::I::d,sc:=s}
 |.Compare l _ R _=>{a:=l::R}
 |.Call f A _ _=>{a:=f::A}
 |.Attribute v _ _=>{a:=[v]}
 |.Subscript v i _=>{a:=[v,i]}
 |.List E _=>{a:=E}
 |.Tuple E k _=>{a:=E,b:=k}
 |.Slice L h _ _=>{a:=[L.getD fy,h.getD fy]}
 |_=>{}
noncomputable def ep (e:c6):List PySem.Expr:=(fK e).a
noncomputable def bA (n:Nat) (e:c6):PySem.Expr:=(ep e)[n]?.getD fy
noncomputable def l4 (e:c6):Nat:=(fK e).b
noncomputable def mc (e:c6):Scope:=(fK e).sc
noncomputable def b_ (x:Nat):Str:=(f0[x]?).getD (gp "")
noncomputable def cW (x:Nat):Str:=(iA[x]?).getD (gp "")
noncomputable def ed (g:Nat):Str:=((j8.find? fun p=>p.2==g).map (·.1)).getD (gp "")
noncomputable def gU (d:aj) (e:c6):PySem.Expr:=match(fK e).c with
 |some q=>ey q.1 q.2
 |none=>match d with
  |.none=>pJ .none (l4 e) e.pos
  |.bool b=>pJ (.bool b) (l4 e) e.pos
  |.int i=>match(fK e).un with
   |true=>yE .USub (pJ (.int (-i)) (l4 (bA 0 e)) (bA 0 e).pos) e.pos
   |false=>pJ (.int i) (l4 e) e.pos
  |.str s=>pJ (.str s) (l4 e) e.pos
  |_=>pJ .ellipsis 0 e.pos
noncomputable def qy:List Nat→List c6→List c6
 |[],_=>[]
 |x::r,e=>ey (b_ x) (e.headD fy).pos::qy r e.tail
noncomputable def mT:eX→c6→c6
 |.a x,e=>ey (b_ x) e.pos
 |.b X,e=>ol (qy X (ep e)) (l4 e) e.pos
mutual
noncomputable def bz:bt→c6→c6
 |.v,e=>e
 |.h d,e=>gU d e
 |.f x,e=>ey (b_ x) e.pos
 |.w f a b,e=>.BinOp (bz a (bA 0 e)) f (bz b (bA 1 e)) e.pos
 |.q a,e=>yE .Not (bz a (bA 0 e)) e.pos
 |.k f a b,e=>rA (bz a (bA 0 e)) [f] [bz b (bA 1 e)] e.pos
 |.s o p a b c,e=>rA (bz a (bA 0 e)) [o,p] [bz b (bA 1 e),bz c (bA 2 e)] e.pos
 |.and E,e=>.BoolOp .And (dJ E (ep e)) e.pos
 |.or E,e=>.BoolOp .Or (dJ E (ep e)) e.pos
 |.l c a b,e=>.IfExp (bz c (bA 0 e)) (bz a (bA 1 e)) (bz b (bA 2 e)) e.pos
 |.j E,e=>ol (dJ E (ep e)) (l4 e) e.pos
 |.list E,e=>pR (dJ E (ep e)) e.pos
 |.y,e=>uH [] [] e.pos
 |.sub a i,e=>pH (bz a (bA 0 e)) (bz i (bA 1 e)) e.pos
 |.n a l h,e=>pH (bz a (bA 0 e)) (.Slice (tK l (bA 0 (bA 1 e))) (tK h (bA 1 (bA 1 e))) ah (bA 1 e).pos) e.pos
 |.attr a x,e=>iu (bz a (bA 0 e)) (cW x) e.pos
 |.call g E,e=>i1 (ey (ed g) (bA 0 e).pos) (dJ E (ep e).tail) [] e.pos
 |.u a m E,e=>i1 (iu (bz a (bA 0 (bA 0 e))) (cW m) (bA 0 e).pos) (dJ E (ep e).tail) [] e.pos
 |.comp j t I s,e=>pI (bz j (bA 0 e)) [⟨mT t (bA 1 e),bz I (bA 2 e),dJ s ((ep e).drop 3),0⟩] (mc e) e.pos
noncomputable def dJ:List bt→List c6→List c6
 |[],_=>[]
 |m::r,E=>bz m (E.headD fy)::dJ r E.tail
noncomputable def tK:Option bt→c6→Option c6
 |.none,_=>ah
 |some m,e=>ac (bz m e)
end
noncomputable def wy:di→c6×c6×List di×List di
 |.Expr e _=>(fy,e,[],[])
 |.Return e _=>(fy,e.getD fy,[],[])
 |.Assign T e _=>(T.headD fy,e,[],[])
 |.AugAssign t _ e _=>(t,e,[],[])
 |.For t e b o _=>(t,e,b,o)
 |.While e b o _=>(fy,e,b,o)
 |.If e a b _=>(fy,e,a,b)
 |.Delete T _=>(T.headD fy,fy,[],[])
 |_=>(fy,fy,[],[])
noncomputable def dz (s:di):PySem.Expr:=(wy s).1
noncomputable def cK (s:di):PySem.Expr:=(wy s).2.1
noncomputable def mS (s:di):List di×List PySem.Stmt:=(wy s).2.2
mutual
noncomputable def IB:ej→di→di
 |.v,s=>s
 |.d m,s=>.Expr (bz m (cK s)) s.pos
 |.h m,s=>.Return (ac (bz m (cK s))) s.pos
 |.set x m,s=>iZ [ey (b_ x) (dz s).pos] (bz m (cK s)) s.pos
 |.g x e,s=>iZ [ey (b_ x) (dz s).pos] (pR (dJ e (ep (cK s))) (cK s).pos) s.pos
 |.p x,s=>iZ [ey (b_ x) (dz s).pos] (uH [] [] (cK s).pos) s.pos
 |.j x a t I d,s=>iZ [ey (b_ x) (dz s).pos] (bz (dY a t I d) (cK s)) s.pos
 |.u x a,s=>iZ [ey (b_ x) (dz s).pos] (bz (ap 18 [a]) (cK s)) s.pos
 |.names X m,s=>iZ [ol (qy X (ep (dz s))) (l4 (dz s)) (dz s).pos] (bz m (cK s)) s.pos
 |.attr a x m,s=>iZ [bz (aX a x) (dz s)] (bz m (cK s)) s.pos
 |.k a x e,s=>iZ [bz (aX a x) (dz s)] (pR (dJ e (ep (cK s))) (cK s).pos) s.pos
 |.n a x,s=>iZ [bz (aX a x) (dz s)] (uH [] [] (cK s).pos) s.pos
 |.sub a i m,s=>iZ [bz (az a i) (dz s)] (bz m (cK s)) s.pos
 |.B x o m,s=>uq (ey (b_ x) (dz s).pos) o (bz m (cK s)) s.pos
 |.q a x o m,s=>uq (bz (aX a x) (dz s)) o (bz m (cK s)) s.pos
 |.f t I b,s=>.For (mT t (dz s)) (bz I (cK s)) (zB b (mS s).1) [] s.pos
 |.m c b,s=>.While (bz c (cK s)) (zB b (mS s).1) [] s.pos
 |.l c a b,s=>.If (bz c (cK s)) (zB a (mS s).1) (zB b (mS s).2) s.pos
 |.del a i,s=>yF [bz (az a i) (dz s)] s.pos
 |.w a l,s=>yF [bz (.n a (ac l) ah) (dz s)] s.pos
 |.y,s=>uG s.pos
 |.o,s=>.Break s.pos
 |.cont,s=>.Continue s.pos
noncomputable def zB:List ej→List di→List di
 |[],_=>[]
 |m::r,S=>IB m (S.headD (uG ⟨0,0,0,0⟩))::zB r S.tail
end
inductive fl where
 |d (d:aj) (o:Obj)
 |a (o:Obj)
 |inst (k:Nat)
 |box (k x:Nat)
 |dict (k:Nat)
 |ns
 |cell
 |slot (l:Bool) (x:Nat)
open fl renaming box→cJ,cell→gP,dict→g8,inst→ga,ns→eH,slot→bQ
noncomputable def fl.ctorIdx (d:fl):Nat:=d.casesOn (fun _ _=>0) (fun _=>1) (fun _=>2) (fun _ _=>3) (fun _=>4) 5 6 fun _ _=>7
abbrev bN:=bp→Option fl
inductive xN where
 |loc (a:Addr)
 |cell (a:Addr)
open xN renaming cell→gO,loc→hH
inductive dQ {α β:Type} (R:α→β→Prop):List α→List β→Prop
 |nil:dQ R [] []
 |cons {a:α} {b:β} {A:List α} {B:List β}:R a b→dQ R A B→dQ R (a::A) (b::B)
open dQ renaming cons→cy,nil→cI
section
variable{S:α→β→Prop}
theorem dQ.mono (i:∀a b,R a b→S a b) (h:dQ R A B):dQ S A B:=by
 exact h.rec cI fun a _ r=>cy (i _ _ a) r
theorem dQ.len (h:dQ R a b):b.length=a.length:=by
 exact h.rec rfl fun _ _ r=>aS (·+1) r
theorem dQ.app (y:dQ R cs ds) (h:dQ R A b):dQ R (A++cs) (b++ds):=by
 exact h.rec y fun a _ r=>cy a r
theorem dQ.get (h:dQ R A B):∀{k:Nat} {a:α},A[k]? =ac a→∃b,B[k]? =ac b∧R a b:=by
 induction h with
 |nil=>intro k a e;injection e
 |cons x _ r=>
  intro k a e;induction k using ir with
  |zero=>exact⟨_,rfl,bD e▸x⟩
  |succ k=>exact r e
theorem dQ.take (h:dQ R A b):∀n:Nat,dQ R (A.take n) (b.take n):=by
 induction h with
 |nil=>intro n;induction n<;>exact cI
 |cons a _ r=>intro n;induction n using ir with
  |zero=>exact cI
  |succ n=>exact cy a (r n)
theorem dQ.drop (h:dQ R A b):∀n:Nat,dQ R (A.drop n) (b.drop n):=by
 induction h with
 |nil=>intro n;induction n<;>exact cI
 |cons a x r=>intro n;induction n using ir with
  |zero=>exact cy a x
  |succ n=>exact r n
theorem dQ.c (h:dQ R A b):dQ R A.reverse b.reverse:=by
 induction h with
 |nil=>exact cI
 |cons a _ r=>exact ak D0 (ak D0 ((cy a cI).app r))
theorem dQ.set (y:R a b) (h:dQ R A B):∀k:Nat,dQ R (A.set k a) (B.set k b):=by
 induction h with
 |nil=>intro;exact cI
 |cons a x r=>intro k;induction k using ir with
  |zero=>exact cy y x
  |succ k=>exact cy a (r k)
theorem dQ.rep (x:dQ R a b) (n:Nat):dQ R (cx n a).flatten (cx n b).flatten:=by
 exact n.rec cI fun n r=>r.app x
end
def ha (G:bN) (d:aj) (v:aV):Prop:=∃a o,v=am a∧G a=ac (.d d o)
def a8 (G:bN) (d:aj) (v:aV):Prop:=match d with
 |.none=>v=dj
 |.bool b=>v=cC b
 |.int i=>∃t,v=aq i t
 |.str x=>∃t,v=ba x t
 |.inst k=>∃a,v=am a∧G a=ac (ga k)
 |.box k x=>jp k x=af∧∃a,v=am a∧G a=ac (cJ k x)
 |d=>ha G d v
noncomputable abbrev dy (G:bN):=dQ (a8 G)
def i5 (b:Bool) (t:fl):Prop:=match t with
 |.slot l _=>l=af
 |.box k x=>b=af∨jp k x=af
 |_=>True
def bV (b:Bool) (G g:bN):Prop:=∀a t,i5 b t→G a=ac t→g a=ac t
def oR (G g:bN):Prop:=∀a l x,g a=ac (bQ l x)→G a=ac (bQ l x)
theorem bV.f:bV b G G:=fun _ _ _ h=>h
theorem y_ (h:i5 (b&&c) t):i5 b t∧i5 c t:=match t,h with
 |.slot _ _,h=>⟨h,h⟩
 |.box _ _,h=>h.elim (fun e=>(bS.mp e).imp av av) fun e=>⟨aI e,aI e⟩
 |.d _ _,_|.a _,_|.inst _,_|.dict _,_|.ns,_|.cell,_=>⟨trivial,trivial⟩
theorem GG (h:i5 ai t):i5 b t:=match t,h with
 |.slot _ _,h=>h
 |.box _ _,h=>h.elim (fun e=>(by injection e)) aI
 |.d _ _,_|.a _,_|.inst _,_|.dict _,_|.ns,_|.cell,_=>trivial
theorem bV.trans (x:bV b G g) (y:bV c g d):bV (b&&c) G d:=fun a t u h=>y a t (y_ u).2 (x a t (y_ u).1 h)
theorem bV.low (x:bV b G g):bV ai G g:=fun a t u h=>x a t (GG u) h
theorem bV.tr (x:bV b G g) (y:bV c g a):bV ai G a:=x.low.trans y.low
def BC (t:fl):Prop:=match t with
 |.a _=>False
 |.slot l _=>l=af
 |.box k x=>jp k x=af
 |_=>True
def oA (G g:bN):Prop:=∀a t,BC t→G a=ac t→g a=ac t
def Al (t:fl):Prop:=match t with
 |.d _ _|.inst _|.dict _=>True
 |.box k x=>jp k x=af
 |_=>False
def iG (G g:bN):Prop:=∀a t,Al t→G a=ac t→g a=ac t
theorem JT (u:BC t):i5 b t:=by
 induction t with
 |a o=>exact u.elim
 |box k x=>exact aI u
 |slot l x=>exact u
 |_=>exact trivial
theorem bV.ls (l:bV b G g):oA G g:=fun a t u=>l a t (JT u)
theorem oA.w (l:oA G g):iG G g:=fun A t u=>l A t (by
 induction t with
 |a o=>exact u.elim
 |slot l x=>exact u.elim
 |box k x=>exact u
 |_=>exact trivial)
theorem bV.ld (l:bV b G g):iG G g:=l.ls.w
section
theorem ha.mono (l:iG G g) (h:ha G d v):ha g d v:=bK h fun a o e t=>cL a o e (l a _ trivial t)
theorem a8.mono (l:iG G g) (h:a8 G d v):a8 g d v:=match d,h with
 |.none,h|.bool _,h|.int _,h|.str _,h=>h
 |.inst _,⟨a,e,t⟩=>⟨a,e,l a _ trivial t⟩
 |.box _ _,⟨n,a,e,t⟩=>⟨n,a,e,l a _ n t⟩
 |.j _,h|.c _,h|.e _,h=>ha.mono l h
theorem dy.mono (l:iG G g) (h:dy G ds vs):dy g ds vs:=dQ.mono (fun _ _=>a8.mono l) h
end
noncomputable def jV (f:Bool) (vs:List aV) (n:Nat):Obj:={cls:=bn (cond f "tuple" "list"),data:=op vs.toArray n}
noncomputable abbrev lC:=jV af
noncomputable abbrev d5:=jV ai
noncomputable def kP (f:Bool) (ds:List aj):aj:=cond f (.j ds) (.c ds)
theorem mf {P:Nat→aj→Prop} (a:∀n,P n a4) (b:∀n i,P n (ae i)) (s:∀n (x:br),x.cps.all (·<0x110000)=af→P n (bP x))
  (t:∀n ds,(∀e∈ds,aj.plain n e=af∧P n e)→P (n+1) (.j ds)) (l:∀n ds,(∀e∈ds,aj.plain n e=af∧P n e)→P (n+1) (.c ds)):∀n d,aj.plain n d=af→P n d:=by
 intro n;induction n with
 |zero=>intro d h;induction d using aj.casesOn<;>first|exact absurd h Bool.false_ne_true|exact a 0|exact b 0 _|exact s 0 _ h
 |succ n I=>
  have k:∀{ds:List aj},ds.all (aj.plain n)=af→∀e∈ds,aj.plain n e=af∧P n e:=fun h e c=>have p:=cH.mp h e c;⟨p,I e p⟩;intro d h;induction d using aj.casesOn<;>first|exact absurd h Bool.false_ne_true|exact a _|exact b _ _|exact s _ _ h|exact t n _ (k h)|exact l n _ (k h)
theorem nO {P:Nat→aj→Prop} (a:∀n i,P n (ae i)) (s:∀n (x:br),x.cps.all (·<0x110000)=af→P n (bP x))
  (t:∀n ds,(∀e∈ds,aj.key n e=af∧P n e)→P (n+1) (.j ds)):∀n d,aj.key n d=af→P n d:=by
 intro n;induction n with
 |zero=>intro d h;induction d using aj.casesOn<;>first|exact absurd h Bool.false_ne_true|exact a 0 _|exact s 0 _ h
 |succ n I=>
  intro d h;induction d using aj.casesOn<;>first|exact absurd h Bool.false_ne_true|exact a _ _|exact s _ _ h|exact t n _ (fun e b=>have p:=List.all_eq_true.mp h e b;⟨p,I e p⟩)
theorem zi:∀n d,aj.key n d=af→aj.plain n d=true:=nO (fun n _=>by induction n<;>rfl) (fun n _ h=>by induction n<;>exact h) fun n D h=>cH.mpr fun e a=>(h e a).2
mutual
noncomputable def ik:aj→PyData
 |.int i=>.int i
 |.str x=>.str x
 |.j D=>.tuple (nh D)
 |.c D=>.list (nh D)
 |_=>.none
noncomputable def nh:List aj→List PyData
 |[]=>[]
 |d::r=>ik d::nh r
end
def l' (h:fT) (G:bN):Prop:=∀f a d o,G a=ac (.d (kP f d) o)→h.get? a=ac o∧∃v n,o=jV f v n∧dy G d v
section
theorem xK (r:dy G ds vs):(∀e∈ds,aj.plain n e=af∧∀v,a8 G e v→∃A,Reads h v (ik e) A)→∃A,ReadsAll h vs (nh ds) A:=by
 exact r.rec (fun _=>⟨_,.nil⟩) fun a _ i=>fun q=>(((q _ (cU _)).2 _ a).elim fun A x=>(i fun e c=>q e (e9 _ c)).elim fun b y=>⟨_,.cons x y⟩)
theorem oO (K:l' h G):∀n d,aj.plain n d=af→∀v,a8 G d v→∃A,Reads h v (ik d) A:=
 mf (fun _ v e=>by cases(e);exact⟨_,.none⟩) (fun _ i v z=>z.elim fun t e=>e▸⟨_,.int i t⟩) (fun _ x _ v z=>z.elim fun t e=>e▸⟨_,.str x t⟩)
  (fun n D q v z=>bK z fun a o e t=>(K af a D o t).elim fun b z=>z.elim fun V Z=>Z.elim fun m c=>c.elim fun E r=>(xK r q).elim fun A x=>by subst e E;exact⟨_,reads_tuple_at b rfl rfl x⟩)
  (fun n D q v z=>bK z fun a o e t=>(K ai a D o t).elim fun b z=>z.elim fun V Z=>Z.elim fun m c=>c.elim fun E r=>(xK r q).elim fun A x=>by subst e E;exact⟨_,reads_list_at b rfl rfl x⟩)
end
theorem u1:∀{ds:List aj},(∀e∈ds,aj.plain n e=af∧(ik e).canLay0=af∧(ik e).depth≤n)→PyData.canLayAll0 (nh ds)=af∧RU (nh ds)≤n:=by
 intro ds;induction ds with
 |nil=>
  exact fun _=>⟨rfl,cA _⟩
 |cons d r i=>
  exact fun q=>dM (q d (cU _)) fun _ a b=>(i fun e h=>q e (e9 _ h)).elim fun c e=>⟨bS.mpr ⟨a,c⟩,yr.mpr ⟨b,e⟩⟩
theorem o8:∀n d,aj.plain n d=af→(ik d).canLay0=af∧(ik d).depth≤n:=
 mf (fun _=>⟨rfl,cA _⟩) (fun _ _=>⟨rfl,cA _⟩) (fun _ _ h=>⟨h,cA _⟩)
  (fun n D q=>(u1 q).elim fun a b=>⟨a,b3 b⟩) (fun n D q=>(u1 q).elim fun a b=>⟨a,b3 b⟩)
theorem BO:∀{E:List aj},(∀d∈ds,aj.plain n d=af∧∀k e,aj.plain k e=af→yn (ik d) (ik e)=aj.beq d e)→(∀e∈E,aj.plain k e=af)→PyData.eqvAll (nh ds) (nh E)=hJ ds E:=by
 induction ds with
 |nil=>intro E;induction E using cn<;>exact fun _ _=>rfl
 |cons d r i=>
  intro E;induction E using cn with
  |nil=>exact fun _ _=>rfl
  |cons e t=>
   refine fun q p=>(?_:(_&&_)=(_&&_));rw[(q d (cU _)).2 k e (p e (cU _)),i (fun x h=>q x (e9 _ h)) fun x h=>p x (e9 _ h)]
theorem u2:∀n d,aj.plain n d=af→∀k e,aj.plain k e=af→yn (ik d) (ik e)=aj.beq d e:=
 mf (fun _=>mf (fun _=>rfl) (fun _ _=>rfl) (fun _ _ _=>rfl) (fun _ _ _=>rfl) fun _ _ _=>rfl)
  (fun _ _=>mf (fun _=>rfl) (fun _ _=>rfl) (fun _ _ _=>rfl) (fun _ _ _=>rfl) fun _ _ _=>rfl)
  (fun _ _ _=>mf (fun _=>rfl) (fun _ _=>rfl) (fun _ _ _=>rfl) (fun _ _ _=>rfl) fun _ _ _=>rfl)
  (fun _ _ q=>mf (fun _=>rfl) (fun _ _=>rfl) (fun _ _ _=>rfl) (fun k E p=>BO q fun e h=>(p e h).1) fun _ _ _=>rfl)
  (fun _ _ q=>mf (fun _=>rfl) (fun _ _=>rfl) (fun _ _ _=>rfl) (fun _ _ _=>rfl) fun k E p=>BO q fun e h=>(p e h).1)
theorem MD (h:aj.plain 8 d=af):ds.all (aj.plain 8)=af→((nh ds).any fun y=>yn y (ik d))=ds.any fun x=>aj.beq x d:=by
 induction ds with
 |nil=>exact fun _=>rfl
 |cons e r i=>
  refine fun p=>(bS.mp p).elim fun a b=>(?_:(yn (ik e) (ik d)||_)=(aj.beq e d||_));rw[u2 8 e a 8 d h,i b]
mutual
noncomputable def qk (w:bZ):aj→Int
 |.int i=>hashInt i
 |.str x=>hashStr w x
 |.j D=>yz (tT (o6 w D))
 |_=>0
noncomputable def o6 (w:bZ):List aj→List Int
 |[]=>[]
 |d::r=>qk w d::o6 w r
end
mutual
noncomputable def qO:aj→Nat
 |.j D=>pY D+1
 |_=>1
noncomputable def pY:List aj→Nat
 |[]=>0
 |d::r=>qO d+pY r
end
theorem Lr (e:aj):∀a:List aj,pY (a++[e])=pY a+qO e:=by
 exact fun a=>a.rec (f_ ..) fun d a i=>(aS (qO d+·) (i)).trans (ev ..).symm
theorem E7 (w:bZ) (e:aj):∀a:List aj,o6 w (a++[e])=o6 w a++[qk w e]:=by
 exact fun a=>a.rec rfl fun d a i=>aS (qk w d::·) (i)
theorem z7 (h:dQ R s (b::B)):∃a A,s=a::A∧R a b∧dQ R A B:=by
 cases h with|cons a r=>exact⟨_,_,rfl,a,r⟩
theorem HU (h:dQ R a []):a=[]:=fs.mp h.len.symm
section
def Ce (w:bZ) (G:bN) (ds:List aj) (s:ct) (J:List aV) (b:Array Int) (S:ct):Prop:=∃d l,ds=d++l∧dy G l J∧b.toList=o6 w d∧S={s with toks:=s.toks+pY d}
theorem JL:∀n d,aj.key n d=af→∀{A:pO} {E:aV→ct→Prop} {s:ct} {v:aV} {Q:Int→ct→Prop},l' s.heap G→a8 G d v→A.units+n<pQ→Q (qk w d) {s with toks:=s.toks+qO d}→aH (aN aC w) A (pyHash v) Q E s:=by
 refine nO (fun _ i A E s v Q _ ⟨t,e⟩ _ h=>e▸wpAny_pyHash_int h) (fun _ x _ A E s v Q _ ⟨t,e⟩ _ h=>e▸wpAny_pyHash_str h) (fun n c I A E s v Q k z u h=>bK z fun a o e t=>(k af a c o t).elim fun g z=>bK z fun V m C r=> ?_);subst e C;have T:s.TypeIs (am a) "tuple":=bd _ g rfl;first|unfold pyHashByItsType|skip
 first|refine wpAny_bind (wpAny_cRoomFor_or (.inr (Nat.lt_of_le_of_lt (Nat.le_add_right ..) u)) ?_)|skip
 refine wpAny_bind (wpAny_specialOf T F.slot_tuple_hash.lookup ?_);refine ak (if_neg (by rw[beq_builtin_none];exact Bool.false_ne_true)) ?_;refine wpAny_bind (wpAny_specialOf T F.slot_tuple_hash.lookup (wpAny_bind (wpAny_callSpecialIfBoundUnlessNone?_slot T F.slot_tuple_hash (wpAny_call_entry F.slot_tuple_hash T F.entry_tuple_hash ?_ (F.args_tuple_hash_1 _)))));refine(?_:wpAny _ _ (Builtin.Tuple.tupleItemsOf (.ref a)>>=_) _ _ s);refine wpAny_bind (wpAny_tupleItemsOf g rfl (wpAny_bind ?_));refine ak (Eq.symm Array.forIn_toList) (wpAny_forIn_list _ (Ce w G c s) _ ?_ ?_ _ _ ⟨[],c,rfl,r,rfl,rfl⟩)
 ·refine fun x J b S z=>ia z fun D M y l f j=>cE (z7 l) fun e L p N P=> ?_;subst y j p;have q:Ce w G (D++e::L) s J (b.push (qk w e)) {s with toks:=s.toks+pY D+qO e}:=⟨D++[e],L,rk ..,P,by rw[Array.toList_push,f,E7],by rw[Lr,←ev]⟩;refine aG ((I e (eD _ (cU _))).2 k N (by rw[ev,f_ 1];exact u) ?_);first|exact wpAny_pure q|exact wpAny_bind (wpAny_pure (wpAny_pure q))
 ·refine fun b S z=>ia z fun D M y l f j=> ?_;have p:=HU l;subst y j p;rw[c8] at h;refine((ak f ?_):aH _ _ (retInt (tT b.toList)) _ _ _);refine SZ ?_;change Q (yz (tT (o6 w D))) {s with toks:=s.toks+(pY D+1)} at h;unfold yz at h;refine(?_:aH _ _ (if(aM (-(2:Int)^63≤tT (o6 w D))&&aM (tT (o6 w D)<2^63))=af then _ else _) Q E _)
  rw[ev];split
  ·rename_i B;rw[aJ B] at h;exact bo h
  ·rename_i B;rw[aL B] at h;exact aG (yw (bo h))
theorem LI:∀n d,aj.key n d=af→∀{A:pO} {E:aV→ct→Prop} {s:ct} {v:aV} {Q:Bool→ct→Prop},l' s.heap G→a8 G d v→Q af s→aH (aN aC w) A (eqIsQuiet n v) Q E s:=by
 refine nO (fun n i A E s v Q _ ⟨t,e⟩ h=> ?_) (fun n x _ A E s v Q _ ⟨t,e⟩ h=> ?_) ?_
 ·exact ak e (ak (SE _ rfl) (bo h))
 ·exact ak e (ak (SE _ rfl) (bo h))
 refine fun n D I A E s v Q k z h=>bK z fun a o e t=>(k af a D o t).elim fun g z=>bK z fun V m c r=> ?_;subst e c;have T:s.TypeIs (am a) "tuple":=bd _ g rfl;unfold eqIsQuiet;refine aG (uc T F.slot_tuple_eq.lookup (aG (SM T isSubtype_tuple_tuple ?_)));simp only[Sz,x1,if_false];refine aG (wpAny_seqItems g rfl (aG (ak (cB RN) (SN _ (fun J r S=>r.1=ah∧S=s∧∃l,(∀d∈l,d∈D)∧dy G l J) _ ?_ ?_ _ _ ⟨rfl,rfl,D,fun _ h=>h,r⟩))))
 ·refine fun v J r S z=>dM z fun b y z=>ay z fun l q f=>cE (z7 f) fun e L j p u=> ?_;subst y j
  ·refine aG ((I e (q e (cU _))).2 k p ?_);simp only[Sz,x1,if_false];exact bo ⟨rfl,rfl,L,fun d B=>q d (e9 _ B),u⟩
 ·rintro ⟨R,C⟩ S ⟨b,rfl,_⟩;simp only at b;subst b;exact bo h
end
noncomputable def i':Type:={d:aj//aj.key 8 d=af∧i7 d=af}
open scoped Classical
def tI (h:fT) (k:i') (a:bp):Prop:=∃G,l' h G∧a8 G k.1 (am a)
theorem Py (r:dy G ds vs):(∀e∈ds,aj.key n e=af∧∀m f,aj.key m f=af→∀v,a8 G e v→a8 g f v→e=f)→∀{E:List aj},dy g E vs→(∀e∈E,aj.key m e=af)→ds=E:=by
 induction r with
 |nil=>intro _ E R _;cases R;rfl
 |cons a _ i=>intro p E R q;cases R with
  |cons b R=>rw[(p _ (cU _)).2 _ _ (q _ (cU _)) _ a b,i (fun e h=>p e (e9 _ h)) R fun e h=>q e (e9 _ h)]
theorem Pb (K:l' h G) (b:l' h c):∀n d,aj.key n d=af→∀m e,aj.key m e=af→∀v,a8 G d v→a8 c e v→d=e:=by
 refine nO (fun _ i=> ?_) (fun _ x _=> ?_) fun _ D I=> ?_
 ·exact nO (fun _ j v ⟨t,x⟩ ⟨u,y⟩=>by subst x;injection y with y;subst y;rfl) (fun _ j _ v ⟨t,x⟩ ⟨u,y⟩=>by subst x;injection y) fun _ E _ v ⟨t,x⟩ ⟨u,o,y,_⟩=>by subst x;injection y
 ·exact nO (fun _ j v ⟨t,x⟩ ⟨u,y⟩=>by subst x;injection y) (fun _ j _ v ⟨t,x⟩ ⟨u,y⟩=>by subst x;injection y with y;subst y;rfl) fun _ E _ v ⟨t,x⟩ ⟨u,o,y,_⟩=>by subst x;injection y
 refine nO (fun _ j v ⟨t,p,x,_⟩ ⟨u,y⟩=>by subst x;injection y) (fun _ j _ v ⟨t,p,x,_⟩ ⟨u,y⟩=>by subst x;injection y) fun _ E q v ⟨t,o,x,g⟩ ⟨u,p,y,f⟩=> ?_;subst x;injection y with y;subst y;obtain⟨l,V,n,s,r⟩:=K af _ _ _ g;obtain⟨a,U,k,w,R⟩:=b af _ _ _ f;subst s;subst w;have e:V=U:=by
  have a:=aS (fun o:cl=>o.data) (bD (l.symm.trans a));injection a with a;exact aS Array.toList a
 subst e;rw[Py r I R fun e z=>(q e z).1]
theorem mQ (x y:i'):aj.beq x.1 y.1=aM (x=y):=by
 by_cases h:x=y
 ·rw[cu h,h];exact(lz _ _ 8 y.2.1).mpr rfl
 ·rw[cP h];exact nV.mpr fun e=>h (Sj ((lz _ _ 8 x.2.1).mp e))
noncomputable def g0 (w:bZ):HeapKind aC w i' where
 is:=tI
 hash k:=qk w k.1
 draws k:=qO k.1
 room A:=A.units+10<pQ
 inj:=fun{h a x y} ⟨G,c,g⟩ ⟨m,i,j⟩=>Sj (Pb c i 8 x.1 x.2.1 8 y.1 y.2.1 _ g j)
 keeps:=fun{h N k a d o P S} ⟨G,c,g⟩ C F I=>⟨G,fun f b D L t=>(c f b D L t).elim fun q z=>⟨(I.2 b fun e=>by
  subst e;obtain⟨v,n,e,_⟩:=z;rw[C] at q;cases q;subst e;cases F).trans q,z⟩,g⟩
 pyHash:=fun{A E s k a Q} u ⟨G,c,g⟩ h=>JL 8 k.1 k.2.1 c g (jg (cj (by decide) _) u) h
 eqBool:=fun{A E s x y a b Q} u ⟨G,c,g⟩ ⟨m,i,j⟩ h=>by
  have p:=zi 8 _ x.2.1;have q:=zi 8 _ y.2.1;obtain⟨M,r⟩:=oO c 8 _ p _ g;obtain⟨B,R⟩:=oO i 8 _ q _ j;have l:=o8 8 _ p;refine SeqAt.eqAt_reads _ _ A s _ _ M B r R l.1 (o8 8 _ q).1 (jg (cj (ao (yc ..) (aD l.2 rfl)) _) u) aC w E Q ?_;rw[u2 8 _ p 8 _ q];rw[mQ];exact h
 quiet:=fun{A E s k a Q} ⟨G,c,g⟩ h=>LI 8 k.1 k.2.1 c g h
section
variable[DecidableEq κ] {al:List (κ×β)}
noncomputable abbrev kF (k:κ→aj) (V:aj→κ×β→Prop):=dQ (fun(p:aj×aj) (q:κ×β)=>p.1=k q.1∧V p.2 q)
theorem kF.get (b:∀x y,aj.beq (a x) (a y)=aM (x=y)) (k:κ) (h:kF a V s al):(f1 (a k) s=ah∧(al.find? fun x=>aM (x.1=k)).map (·.2)=ah)∨∃d q,f1 (a k) s=ac d∧(al.find? fun x=>aM (x.1=k)).map (·.2)=ac q∧V d (k,q):=by
 induction h with
 |nil=>exact av ⟨rfl,rfl⟩
 | @cons p q r R h _ i=>
  obtain⟨x,v⟩:=p;obtain⟨c,f⟩:=h;subst c;rw[Dh,b,List.find?_cons];by_cases e:q.1=k
  ·exact ak (cu e) (aI (er v q.2 rfl rfl (e▸f)))
  ·exact ak (cP e) i
theorem H7 (k:aj):∀s:List (aj×aj),dA k s=(f1 k s).isSome:=by
 intro s;induction s with
 |nil=>exact rfl
 |cons X r i=>
  obtain⟨x,v⟩:=X;refine ak uT (ak Dh ?_);cases aj.beq x k with
  |true=>rfl
  |false=>exact i
theorem kF.has (c:∀x y,aj.beq (d x) (d y)=aM (x=y)) (k:κ) (h:kF d V s al):dA (d k) s=((al.find? fun x=>aM (x.1=k)).map (·.2)).isSome:=by
 rw[H7];rcases h.get c k with⟨a,b⟩|⟨_,_,a,b,_⟩<;>(refine ak a ?_;refine ak b ?_)<;>rfl
theorem Qc {f:κ×β→κ×β}:∀{al:List (κ×β)},k∉al.map (·.1)→al.map (fun x=>if x.1=k then f x else x)=al:=by
 intro al;induction al with
 |nil=>
  exact fun _=>rfl
 |cons x r i=>
  intro h;rw[eE,aL (show¬x.1=k from fun e=>h (e▸cU _)),i fun e=>h (e9 _ e)]
theorem AQ {f:κ×β→κ×β} (l:∀x y,aj.beq (a x) (a y)=aM (x=y)) (h:kF a V s al) (g:∀e v,V e (k,v)→(f (k,v)).1=k∧V d (f (k,v))):(al.map (·.1)).Nodup→k∈al.map (·.1)→kF a V (gd (a k) d s) (al.map fun x=>if x.1=k then f x else x):=by
 induction h with
 |nil=>exact fun _ h=>nomatch h
 | @cons p Q r R h o i=>
  intro n m;obtain⟨x,v⟩:=p;obtain⟨j,b⟩:=Q;obtain⟨t,c⟩:=h;subst t;rw[eE,gn] at n;rw[vO,l,eE];by_cases e:j=k
  ·subst e;rw[cu rfl,aJ rfl,aJ rfl,Qc n.1];exact cy ⟨aS a (g _ _ c).1.symm,(g _ _ c).2⟩ o
  ·rw[cP e,aL e,aL cp];exact cy ⟨rfl,c⟩ (i n.2 ((eS.mp m).resolve_left (oh e)))
theorem Bu (c:∀x y,aj.beq (a x) (a y)=aM (x=y)) (f:V d (k,b)) (h:kF a V s al):k∉al.map (·.1)→kF a V (gd (a k) d s) (al++[(k,b)]):=by
 induction h with
 |nil=>exact fun _=>cy ⟨rfl,f⟩ cI
 | @cons p Q r R h _ i=>
  intro n;obtain⟨x,v⟩:=p;obtain⟨g,j⟩:=h;subst g;rw[vO,c,cP (show¬Q.1=k from fun e=>n (e▸cU _)),aL cp];exact cy ⟨rfl,j⟩ (i fun e=>n (e9 _ e))
theorem kF.del (a:∀x y,aj.beq (d x) (d y)=aM (x=y)) (h:kF d V s al):(al.map (·.1)).Nodup→kF d V (hT (d k) s) (al.filter fun x=>aM (x.1≠k)):=by
 induction h with
 |nil=>exact fun _=>cI
 | @cons p Q r R h b i=>
  intro n;obtain⟨x,v⟩:=p;obtain⟨c,f⟩:=h;subst c;rw[eE,gn] at n;rw[PU,a];by_cases e:Q.1=k
  ·rw[cu e,aJ rfl,Dw (by rw[e];simp),DR.mpr fun x g=>cu (show x.1≠k from fun E=>n.1 (e.trans E.symm▸cr.mpr ⟨x,g,rfl⟩))];exact b
  ·rw[cP e,aL cp,Du (p:=fun x:κ×β=>aM (x.1≠k)) (cu e)];exact cy ⟨rfl,f⟩ (i n.2)
theorem OG:(al.find? fun x=>aM (x.1=k)).isSome=af↔k∈al.map (·.1):=by
 rw[List.find?_isSome,cr];exact⟨fun z=>ay z fun x h e=>bd x h (dB e),fun z=>ay z fun x h e=>bd x h (cu e)⟩
end
open scoped Classical
noncomputable abbrev mL (G:bN):=kF (β:=aV) ae fun d q=>a8 G d q.2
noncomputable abbrev oG (G:bN):=kF (κ:=i') (β:=bp×aV) (·.1) fun d q=>a8 G q.1.1 (am q.2.1)∧a8 G d q.2.2
noncomputable abbrev md (w:bZ):KeyKind aC w Int:=intKind aC w
theorem q7 (x y:Int):aj.beq (ae x) (ae y)=aM (x=y):=rfl
def cQ (w:bZ) (G:bN) (o:cl) (d:aj):Prop:=match d with
 |.j D=>∃v n,o=lC v n∧dy G D v∧D.length≤fR
 |.c D=>∃v n,o=d5 v n∧dy G D v∧D.length≤fR
 |.e k=>k.length≤fR∧((∃al,mL G k al∧∀h a,yt h a=ac o→h.DictOf (md w) a al)∨∃al,oG G k al∧∀h a,yt h a=ac o→(∀x∈al,tI h x.1 x.2.1)→h.DictOfH (g0 w) a al)
 |_=>False
theorem cQ.mono (l:iG G g) (h:cQ w G o d):cQ w g o d:=match d,h with
 |.j _,⟨v,n,e,r,z⟩=>⟨v,n,e,dy.mono l r,z⟩
 |.c _,⟨v,n,e,r,z⟩=>⟨v,n,e,dy.mono l r,z⟩
 |.e _,⟨z,h⟩=>⟨z,h.imp (fun z=>ay z fun al a q=>bd al (a.mono fun _ _ h=>h.imp_right (a8.mono l)) q) fun z=>ay z fun al a q=>bd al (a.mono fun _ _ h=>h.imp_right fun h=>h.imp (a8.mono l) (a8.mono l)) q⟩
structure dr where
 w:bZ
 a:ct
 pl:Nat→xN
 sc:gM
 env:od
 A:pO
 n:Nat
noncomputable def fm (s:gM) (x:Nat):Option NameKind:=if x<f0.length then s.names.lookup (b_ x) else ah
noncomputable def iF (s:gM) (x:Nat):Bool:=aM (fm s x=ac g6)||aM (fm s x=ac gu)
noncomputable def oy (s:gM) (x:Nat):Bool:=iF s x||aM (fm s x=ac d')
theorem v_ (h:iF s x=af):fm s x=ac g6∨fm s x=ac gu:=((dK ..).mp h).imp dB dB
theorem zs (h:oy s x=af):iF s x=af∨fm s x=ac d':=((dK ..).mp h).imp id dB
noncomputable def f8 (Y:ar) (k:Nat):Option Nat:=(Y[k]?).map (·.cls)
noncomputable def fk (Y:ar) (k x:Nat):Option ic:=(Y[k]?).bind fun i=>i.attrs.lookup x
noncomputable def gS (l:Bool) (c:b0):il:=cond l (.a c) (bE c)
noncomputable def mi:ic→Option aj
 |.l d=>ac d
 |.box _=>ah
def mF (G:bN) (k x:Nat) (v:Option aV) (a:Option (Option aj)):Prop:=match a with
 |none=>v=ah
 |some (some d)=>∃u,v=ac u∧a8 G d u
 |some none=>∃b,v=ac (am b)∧G b=ac (cJ k x)
def ku (w:bZ) (G:bN) (Y:ar) (L:au) (o:cl) (t:fl):Prop:=match t with
 |.d d p=>o=p∧cQ w G o d
 |.a p=>o=p
 |.inst k=>∃c D,f8 Y k=ac c∧jW c=af∧o.cls=am (eP c)∧(∀c,o.data≠.cls c)∧o.dict=ac D∧G D=ac (g8 k)
 |.box k x=>∃c,fk Y k x=ac (b1 c)∧cQ w G o c.frz
 |.dict k=>(f8 Y k).isSome=af∧∃m,(∀h a,yt h a=ac o→h.Ns1 a m)∧(∀x,x<iA.length→mF G k x (m (cW x)) ((fk Y k x).map mi))∧∀n,n∉iA→m n=ah
 |.ns=>∃m,∀h a,yt h a=ac o→h.Ns a m
 |.cell=>∃v,o.data=.cell v
 |.slot l x=>∃c,bG x L=ac (gS l c)∧cQ w G o c.frz
def ox (t:fl):Prop:=match t with
 |.inst _|.box _ _|.dict _|.slot _ _=>True
 |_=>False
def iE (G:bN) (h:fT) (x:Nat) (v:aV) (p:xN):Prop:=x<f0.length∧match p with
 |.loc a=>G a=ac eH∧∃m,h.Ns a m∧m (b_ x)=ac v
 |.cell a=>G a=ac gP∧h.IsCell a (ac v)
def jx (G:bN) (x:Nat) (v:aV) (s:il):Prop:=match s with
 |.l d=>a8 G d v
 |.own _=>∃a,v=am a∧G a=ac (bQ ai x)
 |.a _=>∃a,v=am a∧G a=ac (bQ af x)
noncomputable def z8 (i:Nat):aj:=((lD[i]?).map (·.2)).getD a4
noncomputable def tx (d:aj):List aj:=match d with
 |.j D=>D
 |_=>[]
noncomputable def kA:List (bp×aj):=[125,126,127,128,129,130,131,132,133,134,135,141,143,144,145,146].zip (tx (z8 46))++[(147,46),(148,47),(149,48),(326,61),(327,62),(328,63),(329,64),(331,65),(617,68),(1061,72)].map (fun p=>(p.1,z8 p.2))++[(136,.j []),(137,.j []),(138,.j []),(139,.j []),(140,.j []),(142,.j [ae 8,ae 9])]
noncomputable def d6 (w:bZ):bN:=fun a=>match(cO w.params).get? a with
 |none=>ah
 |some o=>match kA.lookup a with
  |some d=>ac (.d d o)
  |none=>ac (.a o)
structure aU (c:dr) (G:bN) (L:au) (Y:ar) (s:ct):Prop where
 same:∃h tk,s={c.a with heap:=h,toks:=tk}
 ok:∀a t,G a=ac t→∃o,s.heap.get? a=ac o∧ku c.w G Y L o t
 solo:∀a b t,ox t→G a=ac t→G b=ac t→a=b
 base:bV ai (d6 c.w) G
 vis:∀x,match c.pl x with|.loc a=>G a=ac eH|.cell a=>G a=ac gP
 fr:∀x sl,bG x L=ac sl→∃v,iE G s.heap x v (c.pl x)∧jx G x v sl
def nR (G g:bN) (Y st':ar) (L l:au) (t:fl):Prop:=match t with
 |.inst k=>f8 st' k=f8 Y k
 |.box k x=>fk st' k x=fk Y k x
 |.dict k=>f8 st' k=f8 Y k∧∀x,(fk st' k x).map mi=(fk Y k x).map mi∧∀b,G b=ac (cJ k x)→g b=ac (cJ k x)
 |.slot _ x=>bG x l=bG x L
 |_=>True
theorem nR.c {Y:ar} (h:∀l x,t=bQ l x→bG x d=bG x L) (e:∀k x a,G a=ac (cJ k x)→g a=ac (cJ k x)):nR G g Y Y L d t:=by
 induction t<;>first|exact rfl|exact trivial|exact⟨rfl,fun x=>⟨rfl,fun b=>e _ _ b⟩⟩|exact h _ _ rfl
theorem nR.f {Y:ar} (h:∀k x a,G a=ac (cJ k x)→g a=ac (cJ k x)):nR G g Y Y L L t:=.c (fun _ _ _=>rfl) h
section
variable{Y:ar}
theorem ku.view (l:iG G j) (v:nR G j Y st' L n t) (h:ku w G Y L o t):ku w j st' n o t:=by
 induction t with
 |d s p=>exact⟨h.1,h.2.mono l⟩
 |a p=>exact h
 |inst k=>exact Aa h fun c D A b e f g i=>⟨c,D,ux v A,b,e,f,g,l _ _ trivial i⟩
 |box k x=>exact h.elim fun c h=>⟨c,ux v h.1,h.2.mono l⟩
 |dict k=>
  obtain⟨A,m,b,f,g⟩:=h;refine v.elim fun v u=> ?_;refine⟨v▸A,m,b,fun x r=> ?_,g⟩;have e:=f x r;rw[(u x).1];unfold mF at e⊢;split
  ·rename_i q;rw[q] at e;exact e
  ·rename_i q;rw[q] at e;exact e.imp fun _ h=>h.imp_right (a8.mono l)
  ·rename_i q;rw[q] at e;exact e.imp fun _ h=>h.imp_right ((u x).2 _)
 |ns=>exact h
 |cell=>exact h
 |slot b x=>exact h.elim fun c h=>bd c (ux v h.1) (h.2.mono l)
theorem aU.step (k:aU c G L Y s) {tk:Nat} (l:oA G d) (b:bV ai (d6 c.w) d)
  (n:∀a t,d a=ac t→(∃o,h'.get? a=ac o∧ku c.w d st' i o t)∨(G a=ac t∧(∀o,s.heap.get? a=ac o→h'.get? a=ac o)∧nR G d Y st' L i t))
  (S:∀a b t,ox t→d a=ac t→d b=ac t→a=b)
  (f:∀x sl,bG x i=ac sl→∃v,iE d h' x v (c.pl x)∧jx d x v sl):aU c d i st' {s with heap:=h',toks:=tk}:=
 ⟨oQ k.same fun h t e=>⟨h',tk,e▸rfl⟩,fun a t e=>(n a t e).elim id fun z=>dM z fun g q v=>ay (k.ok a t g) fun o j x=>⟨o,q o j,x.view l.w v⟩,S,b,fun x=>by have:=k.vis x;revert this;cases c.pl x<;>exact l _ _ trivial,f⟩
theorem iE.mono (l:oA G g) (q:∀a o,(G a=ac eH∨G a=ac gP)→h.get? a=ac o→h'.get? a=ac o) (y:iE G h x v p):iE g h' x v p:=by
 refine y.imp_right fun y=> ?_;induction p with
 |loc a=>exact⟨l _ _ trivial y.1,y.2.imp fun m z=>z.imp_left fun z=>z.imp fun o z=>z.imp fun e z=>z.imp fun E z=>z.imp_left (q _ _ (av y.1))⟩
 |cell a=>exact⟨l _ _ trivial y.1,y.2.imp fun o z=>z.imp_left (q _ _ (aI y.1))⟩
theorem jx.mono (l:oA G b) (g:∀a,(∃c,sl=bE c)→G a=ac (bQ ai x)→b a=ac (bQ ai x)) (y:jx G x v sl):jx b x v sl:=by
 induction sl with
 |l d=>exact a8.mono l.w y
 |own c=>exact y.imp fun a z=>z.imp_right (g a ⟨c,rfl⟩)
 |a c=>exact y.imp fun a z=>z.imp_right (l a _ rfl)
theorem aU.bs (k:aU c G L Y s) (l:bV ai G g):bV ai (d6 c.w) g:=fun a t u e=>l a t u (k.base a t u e)
theorem aU.kp (k:aU c G L Y s) {tk:Nat} (q:∀a o,(G a).isSome=af→s.heap.get? a=ac o→h'.get? a=ac o):aU c G L Y {s with heap:=h',toks:=tk}:=
 k.step (fun _ _ _ h=>h) k.base (fun a t e=>aI ⟨e,fun o=>q a o (e▸rfl),.f fun _ _ _ h=>h⟩) k.solo fun x S h=>(k.fr x S h).imp fun v y=>y.imp_left (iE.mono (fun _ _ _ h=>h) fun a o t=>q a o (t.elim (fun t=>t▸rfl) fun t=>t▸rfl))
theorem aU.tok (k:aU c G L Y s) (t:Nat):aU c G L Y {s with toks:=t}:=k.kp (h':=s.heap) fun _ _ _ h=>h
theorem aU.free (k:aU c G L Y s) (h:s.heap.get? a=ah):G a=none:=by
 induction e:G a with
 |none=>rfl
 |some t=>refine ay (k.ok a t e) fun o b _=> ?_;rw[h] at b;injection b
noncomputable def dt (G:bN) (a:bp) (t:fl):bN:=fun b=>if b=a then ac t else G b
theorem hX:dt G a t a=ac t:=aJ rfl
theorem hW (h:b≠a):dt G a t b=G b:=aL h
theorem gc (h:dt G a t b=ac u):(b=a∧u=t)∨(b≠a∧G b=ac u):=by
 by_cases e:b=a
 ·subst e;rw[hX] at h;exact av ⟨rfl,bD h.symm⟩
 ·rw[hW e] at h;exact aI ⟨e,h⟩
theorem CA (h:∀u,G a=ac u→¬i5 b u):bV b G (dt G a t):=fun B u q e=>(hW (show B≠a from fun x=>h u (x▸e) q)).trans e
theorem jP (h:G a=ah):bV b G (dt G a t):=CA fun u e=>by rw[h] at e;injection e
end
theorem kR:∀{L:au},bG y (fZ x s L)=if y=x then ac s else bG y L:=by
 intro L;induction L with
 |nil=>
     show(if x=y then ac s else ah)=if y=x then ac s else ah
     by_cases h:x=y
     ·rw[aJ h,aJ h.symm]
     ·rw[aL h,aL (oh h)]
 |cons X r i=>
  obtain⟨z,u⟩:=X;show bG y (if z=x then(z,s)::r else(z,u)::fZ x s r)=if y=x then ac s else if z=y then ac u else bG y r
  by_cases h:z=x
  ·subst h;rw[aJ rfl];show(if z=y then ac s else bG y r)=_
   by_cases e:y=z
   ·rw[aJ e,aJ e.symm]
   ·rw[aL e,aL (oh e),aL (oh e)]
  ·rw[aL h];show(if z=y then ac u else bG y (fZ x s r))=_
   rw[i];by_cases e:z=y
   ·rw[aJ e,aJ e,aL (e▸h)]
   ·rw[aL e,aL e]
theorem AN:f0.Nodup∧iA.Nodup:=by decide+kernel
theorem uK (b:x<f0.length) (c:y<f0.length) (e:b_ x=b_ y):x=y:=by
 have a {j:Nat} (h:j<f0.length):f0[j]? =ac (b_ j):=by unfold b_;refine ak (cS h) ?_;rfl
 exact(D1 b AN.1).mp ((a b).trans (e▸(a c).symm))
theorem w5 (h:j<iA.length):iA[j]? =ac (cW j):=by unfold cW;refine ak (cS h) ?_;rfl
theorem JJ (h:x<iA.length) (a:y<iA.length) (e:cW x=cW y):x=y:=(D1 h AN.2).mp ((w5 h).trans (e▸(w5 a).symm))
theorem KY:∀{l:List (Nat×ic)},(su x v l).lookup y=if y=x then ac v else l.lookup y:=by
 intro l;induction l with
 |nil=>
  show kj y [(x,v)]=_;rw[fP];by_cases h:y=x
  ·rw[h,iX,aJ rfl]
  ·rw[c5.mpr h,aL h]
 |cons X r i=>
  obtain⟨z,u⟩:=X;show kj y (if z=x then(z,v)::r else(z,u)::su x v r)=_
  by_cases a:z=x
  ·subst a;rw[aJ rfl,fP,fP];by_cases h:y=z
   ·rw[h,iX,aJ rfl]
   ·rw[c5.mpr h,aL h]
  ·rw[aL a,fP,fP,i];by_cases h:y=z
   ·subst h;rw[iX];exact(aL a).symm
   ·rw[c5.mpr h]
structure xu (k x:Nat) (v:ic) (Y st':ar):Prop where
 a:jU.contains x=af
 cls:∀j,f8 st' j=f8 Y j
 att:∀j y,fk st' j y=if j=k∧y=x then ac v else fk Y j y
 B:(f8 Y k).isSome=af
theorem ql {Y:ar} (e:gk k x v Y=ac st'):xu k x v Y st':=by
 unfold gk at e;split at e
 ·rename_i c;split at e
  ·rename_i i a;injection e with e;subst e;have b:=(hy.mp a).1;refine⟨c,fun j=> ?_,fun j y=> ?_,by unfold f8;refine ak a ?_;rfl⟩
   ·unfold f8;by_cases h:k=j
    ·subst h;rw[Rl b,a];rfl
    ·rw[Ry h]
   ·unfold fk;by_cases h:k=j
    ·subst h;rw[Rl b,a];show(su x v i.attrs).lookup y=_;rw[KY];by_cases h:y=x
     ·rw[aJ h,aJ ⟨rfl,h⟩]
     ·rw[aL h,aL fun q=>h q.2];rfl
    ·rw[Ry h,aL fun q=>h q.1.symm]
  ·injection e
 ·injection e
noncomputable def mn (P:fl→Prop) (G:bN):bN:=open Classical in fun a=>match G a with
 |some t=>if P t then ah else ac t
 |none=>ah
open Classical in
theorem fn:mn P G a=ac t↔G a=ac t∧¬P t:=by
 unfold mn;cases G a with
 |none=>exact⟨fun h=>((by injection h)),fun h=>(nomatch h.1)⟩
 |some u=>
  show(if P u then ah else ac u)=ac t↔_
  by_cases h:P u
  ·rw[aJ h];exact⟨fun h=>((by injection h)),fun q=>by cases q.1;exact aR h q.2⟩
  ·rw[aL h];exact⟨fun q=>⟨q,by injection q with q;subst q;exact h⟩,fun q=>q.1⟩
theorem Bq (h:∀t,P t→¬i5 b t):bV b G (mn P G):=fun a t u e=>fn.mpr ⟨e,fun p=>h t p u⟩
section
variable{Y:ar}
theorem aU.B (k:aU c G L Y s):G s.heap.objs.size=none:=k.free (by
 induction e:s.heap.get? s.heap.objs.size with
 |none=>rfl
 |some o=>exact aR (ki e) (gI _))
theorem aU.tag (k:aU c G L Y s) (n:G a=ah) (g:s.heap.get? a=ac o) (r:ku c.w G Y L o t) (S:∀b,ox t→G b=ac t→False):aU c (dt G a t) L Y s:=by
 have l {b:Bool}:bV b G (dt G a t):=jP n;have v {u:fl}:nR G (dt G a t) Y Y L L u:=.f fun _ _ _ h=>l _ _ (av rfl) h;have d:=(l (b:=ai)).ls
 have e:=k.step (tk:=s.toks) (h':=s.heap) d (k.bs l) (fun b u e=>(gc e).elim (fun e=>av (by rw[e.1,e.2];exact bd o g (r.view d.w v))) fun e=>aI ⟨e.2,fun _ h=>h,v⟩)
  (fun b c u f x y=>(gc x).elim (fun x=>(gc y).elim (fun y=>x.1.trans y.1.symm) fun y=>(S c (x.2▸f) (x.2▸y.2)).elim) fun x=>(gc y).elim (fun y=>(S b (y.2▸f) (y.2▸x.2)).elim) fun y=>k.solo b c u f x.2 y.2)
  fun x i h=>(k.fr x i h).imp fun w y=>y.imp (iE.mono d fun _ _ _ h=>h) (jx.mono d fun b _ h=>(hW fun x=>by rw[x,n] at h;injection h).trans h)
 exact e
theorem aU.new (k:aU c G L Y s) (f:o.isFreed=ai) (r:cQ c.w G o d):aU c (dt G s.heap.objs.size (.d d o)) L Y {s with heap:=s.heap.push o}:=
 (k.kp (h':=s.heap.push o) fun _ _ _ h=>iq o h).tag k.B (g4 _ f) ⟨rfl,r⟩ fun _ h=>h.elim
end
section
variable{Y:ar}
theorem aU.frz (k:aU c G L Y s) (t:G a=ac (bQ ai x)) (e:bG x L=ac (bE q)) (m:s.heap.get? a=ac o) (r:cQ c.w G o q.frz):
  bV af G (dt G a (.d q.frz o))∧oR G (dt G a (.d q.frz o))∧ha (dt G a (.d q.frz o)) q.frz (am a)∧aU c (dt G a (.d q.frz o)) (fZ x (.l q.frz) L) Y s:=by
 have l {b:Bool}:bV b G (dt G a (.d q.frz o)):=CA fun u g=>by rw[t] at g;injection g with g;subst g;exact cp
 have d:=(l (b:=ai)).ls;have R:ha (dt G a (.d q.frz o)) q.frz (am a):=cL a o rfl hX
 refine⟨l,fun b f y g=>(gc g).elim (fun g=>nomatch g.2) fun g=>g.2,R,k.step (h':=s.heap) d (k.bs l) (fun b u g=>(gc g).elim (fun g=>av (by refine ak g.1 ?_;refine ak g.2 ?_;exact gX o m rfl (r.mono d.w))) fun g=>aI ⟨g.2,fun _ h=>h, ?_⟩)
  (fun b e u j x y=>(gc x).elim (fun x=>(x.2▸j:ox (.d _ _)).elim) fun x=>(gc y).elim (fun y=>(y.2▸j:ox (.d _ _)).elim) fun y=>k.solo b e u j x.2 y.2) fun y S h=> ?_⟩
 ·refine .c (fun f y j=>kR.trans (aL fun z=>(k.ok _ _ g.2).elim fun _ h=> ?_)) fun _ _ _ h=>l _ _ (av rfl) h;subst j z;obtain⟨_,p,i,_⟩:=h;rw[e] at i;induction f with
  |true=>cases i
  |false=>exact g.1 (k.solo _ _ (bQ ai y) trivial g.2 t)
 ·rw[kR] at h;by_cases z:y=x
  ·subst z;rw[aJ rfl] at h;injection h with h;subst h;refine(k.fr y _ e).imp fun v g=>⟨g.1.mono d fun _ _ _ h=>h,(ay g.2 fun b e g=> ?_)⟩;refine ak e (ak (k.solo _ _ (bQ ai y) trivial g t) ?_);induction q<;>exact R
  ·have h:=aL z▸h;exact(k.fr y _ h).imp fun v g=>g.imp (iE.mono d fun _ _ _ h=>h) (jx.mono d fun b _ g=>(hW fun e=>by have g:=e▸g;have g:=t▸g;cases g;exact z rfl).trans g)
theorem aU.cont (k:aU c G L Y s) {tk:Nat} (i:G a=ac t) (S:ox t) (j:hC a s.heap h') (m:h'.get? a=ac o) (r:ku c.w G st' l o t) (v:∀b u,G b=ac u→u≠t→nR G G Y st' L l u)
  (f:∀x sl,bG x l=ac sl→∃sl0,bG x L=ac sl0∧∀v,jx G x v sl0→jx G x v sl):aU c G l st' {s with heap:=h',toks:=tk}:=by
 have n {b:bp} {u:fl} (g:G b=ac u) (e:u≠t):b≠a:=by rintro rfl;rw[i] at g;injection g with g;subst g;exact e rfl
 refine k.step (fun _ _ _ h=>h) k.base (fun b u g=> ?_) k.solo fun x sl h=>(f x sl h).elim fun sl0 h=>(k.fr x sl0 h.1).imp fun v g=>⟨g.1.mono (fun _ _ _ h=>h) fun b p g d=>(j.2 b (g.elim (fun g=>n g (by rintro rfl;exact S)) fun g=>n g (by rintro rfl;exact S))).trans d,h.2 v g.2⟩;by_cases e:u=t
 ·subst e;exact ak (k.solo _ _ _ S g i) (av (bd o m r))
 ·exact aI ⟨g,fun p d=>(j.2 b (n g e)).trans d,v b u g e⟩
theorem kG (h:gS l p=gS f q):l=f∧p=q:=by
 induction l<;>induction f<;>cases h<;>exact⟨rfl,rfl⟩
theorem nQ (e:gV x L=ac q):∃l,bG x L=ac (gS l q):=by
 have e:(match bG x L with|some (.own c)=>ac c|some (.a c)=>ac c|_=>ah)=ac q:=e
 cases h:bG x L with
 |none=>rw[h] at e;exact nomatch e
 |some s=>
  rw[h] at e;induction s with
  |own c=>exact⟨ai,bD e▸rfl⟩
  |a c=>exact⟨af,bD e▸rfl⟩
  |l _=>exact nomatch e
theorem aU.peek (k:aU c G L Y s) (e:bG x L=ac (gS l q)):∃a,iE G s.heap x (am a) (c.pl x)∧G a=ac (bQ l x):=
 (k.fr x _ e).elim fun v g=>by induction l<;>exact g.2.elim fun a y=>bd a (y.1▸g.1) y.2
theorem aU.slAt (k:aU c G L Y s) (t:G a=ac (bQ l x)) (e:gV x L=ac q):bG x L=ac (gS l q)∧∃o,s.heap.get? a=ac o∧cQ c.w G o q.frz:=by
 obtain⟨o,d,p,h,r⟩:=k.ok _ _ t;obtain⟨f,b⟩:=nQ e;rw[h] at b;obtain⟨rfl,rfl⟩:=kG (bD b);exact⟨h,o,d,r⟩
theorem aU.poke (k:aU c G L Y s) {tk:Nat} (t:G a=ac (bQ l x)) (e:bG x L=ac (gS l p)) (d:hC a s.heap h') (j:h'.get? a=ac o) (r:cQ c.w G o q.frz):aU c G (fZ x (gS l q) L) Y {s with heap:=h',toks:=tk}:=by
 refine k.cont t trivial d j (bd q (kR.trans (aJ rfl)) r) (fun b u g m=> ?_) fun y z h=> ?_
 ·refine .c (fun f y n=>kR.trans (aL fun z=>(k.ok _ _ g).elim fun _ h=> ?_)) fun _ _ _ h=>h;subst n z;obtain⟨_,p,i,_⟩:=h;rw[e] at i;exact m ((kG (bD i)).1▸rfl)
 ·rw[kR] at h;by_cases q:y=x
  ·subst q;rw[aJ rfl] at h;injection h with h;subst h;exact⟨_,e,fun v h=>by induction l<;>exact h⟩
  ·rw[aL q] at h;exact bd z h (fun _ h=>h)
theorem vh (g:bG x L=ac (gS l p)) (e:jt x q L=ac a):a=fZ x (gS l q) L:=by
 unfold jt at e;rw[g] at e;induction l<;>cases e<;>rfl
theorem aU.pokeB (k:aU c G L Y s) {tk:Nat} (t:G a=ac (cJ j x)) (e:fk Y j x=ac (b1 p)) (d:hC a s.heap h') (l:h'.get? a=ac o) (r:cQ c.w G o q.frz) (u:xu j x (b1 q) Y st'):aU c G L st' {s with heap:=h',toks:=tk}:=by
 refine k.cont t trivial d l (bd q ((u.att ..).trans (aJ ⟨rfl,rfl⟩)) r) (fun b w g m=> ?_) fun y z h=>bd z h (fun _ h=>h);induction w with
 |slot f y=>exact rfl
 |inst i=>exact u.cls i
 |box i y=>exact(u.att ..).trans (aL fun h=>m (by rw[h.1,h.2]))
 |dict i=>
   refine⟨u.cls i,fun y=>⟨?_,fun b h=>h⟩⟩;rw[u.att];by_cases h:i=j∧y=x
   ·rw[aJ h,h.1,h.2,e];rfl
   ·rw[aL h]
 |_=>exact trivial
end
structure bj (r:bZ×Nat) (c:dr):Prop where
 r:(c.w,c.n)=r
 l:c.env.scope.kind=k4
 v:c.env.globals=n_
 B:c.env.builtins=rz
 loc:∀x,fm c.sc x=ac g6→c.env.kindOf (b_ x)=ac g6∧c.pl x=hH c.env.locals
 cell:∀x,fm c.sc x=ac gu→c.env.kindOf (b_ x)=ac gu∧∃a,c.env.cells.lookup (b_ x)=ac a∧c.pl x=gO a
 free:∀x,fm c.sc x=ac d'→(c.env.kindOf (b_ x)=ac gu∨c.env.kindOf (b_ x)=ac d')∧∃a,c.env.cells.lookup (b_ x)=ac a∧c.pl x=gO a
 glob:∀y,c.sc.names.lookup y=ac pC→c.env.kindOf y=ac pC
 sep:∀x y a,x<f0.length→y<f0.length→c.pl x=gO a→c.pl y=gO a→x=y
 b:c.A.handled=ah
 j:c.A.depth+8*c.n+8≤900
 d:c.A.units+40*c.n+40≤9000
theorem kU (h:fm s x=ac k):x<f0.length:=by
 unfold fm at h;split at h
 ·assumption
 ·injection h
section
variable{Y:ar}
theorem zg:∀x∈f0,(x==("__debug__":br))=ai∧(x==("__classdict__":br))=false:=by decide+kernel
theorem wv (h:x<f0.length):b_ x∈f0:=by unfold b_;exact ak (cS h) (k1 h)
theorem pX (o:bj w c) (f:oy c.sc x=af) (p:iE G s.heap x v (c.pl x)) (q:Q v s):aH (aN aC c.w) c.A (bO (ey (b_ x) pos) c.env) Q E s:=by
 have h:=zg _ (wv p.1);refine wpAny_Name ?_ h.1;rcases(zs f).imp v_ id with(e|e)|e
 ·obtain⟨a,b⟩:=o.loc x e;rw[b] at p;obtain⟨_,_,m,n,e⟩:=p;exact wpAny_loadName_local o.l a n e q
 ·obtain⟨a,d,b,e⟩:=o.cell x e;rw[e] at p;exact wpAny_loadName_cell o.l a b p.2.2 q
 ·obtain⟨a,d,b,e⟩:=o.free x e;rw[e] at p;exact a.elim (fun a=>wpAny_loadName_cell o.l a b p.2.2 q) fun a=>Sl o.l a b p.2.2 q h.2
theorem aU.name (k:aU c G L Y s) {tk:Nat} (T:t=eH∨t=gP) (D:G a=ac t) (C:hC a s.heap h') (I:∃o,h'.get? a=ac o∧∀G Y L,ku c.w G Y L o t) (N:j5 x L=ai) (l:bV af G m)
  (g:∀b u,m b=ac u→(u≠bQ ai x∧G b=ac u)∨(u=bQ ai x∧(∃q,sl=bE q∧∃o,s.heap.get? b=ac o∧cQ c.w G o q.frz)∧b≠a∧∀d,m d=ac u→d=b))
  (M:∀b y,y≠x→G b=ac (bQ ai y)→m b=ac (bQ ai y)) (p:iE m h' x v (c.pl x)) (P:∀y u,y≠x→iE G s.heap y u (c.pl y)→iE m h' y u (c.pl y)) (S:jx m x v sl):aU c m (fZ x sl L) Y {s with heap:=h',toks:=tk}:=by
 refine k.step l.ls (k.bs l.low) (fun b u e=> ?_) (fun b d u Q e f=> ?_) fun y z h=> ?_
 ·rcases g b u e with⟨n,e⟩|⟨rfl,⟨q,rfl,o,h,r⟩,n,_⟩
  ·by_cases A:b=a
   ·exact .inl (I.imp fun o h=>⟨A▸h.1,(Option.some.inj (D.symm.trans (A▸e)):t=u)▸h.2 ..⟩)
   ·refine .inr ⟨e,fun o h=>(C.2 b A).trans h,.c (fun f y z=>kR.trans (if_neg fun i=> ?_)) fun _ _ _ h=>l _ _ (.inl rfl) h⟩;induction f with
    |false=>exact n (i▸z)
    |true=>obtain⟨_,_,_,j,_⟩:=k.ok _ _ (z▸e);unfold j5 at N;rw[←i,j] at N;exact nomatch N
  ·exact av ⟨o,(C.2 b n).trans h,q,kR.trans (aJ rfl),r.mono l.ld⟩
 ·rcases g b u e with⟨n,R⟩|⟨rfl,_,_,w⟩
  ·rcases g d u f with⟨_,F⟩|⟨z,_⟩
   ·exact k.solo b d u Q R F
   ·exact absurd z n
  ·exact(w d f).symm
 ·rw[kR] at h;by_cases e:y=x
  ·rw[if_pos e] at h;exact⟨v,e▸p,Option.some.inj h▸e▸S⟩
  ·rw[if_neg e] at h;exact(k.fr y z h).imp fun u w=>⟨P y u e w.1,w.2.mono l.ls fun b _ i=>M b y e i⟩
theorem CJ (F:bj w c) (k:aU c G L Y s) (ε:iF c.sc x=af) (N:j5 x L=ai) (l:bV af G I)
  (g:∀b u,I b=ac u→(u≠bQ ai x∧G b=ac u)∨(u=bQ ai x∧(∃q,sl=bE q∧∃o,s.heap.get? b=ac o∧cQ c.w G o q.frz)∧(∀t,t=eH∨t=gP→G b≠ac t)∧∀d,I d=ac u→d=b))
  (X:∀b y,y≠x→G b=ac (bQ ai y)→I b=ac (bQ ai y)) (S:jx I x v sl) (h:∀Z,aU c I (fZ x sl L) Y Z→Q () Z):aH (aN aC c.w) c.A (yD c.env (b_ x) v) Q E s:=by
 have α {a:bp} {t:fl} (ζ:t=eH∨t=gP) (e:G a=ac t):=fun b u i=>(g b u i).imp_right fun z=>iN z fun p q r z=>(nD p q (fun j=>r t ζ (j▸e):b≠a) z:_∧_∧_∧_);have B:=k.vis x;rcases v_ ε with e|e
 ·obtain⟨a,b⟩:=F.loc x e;have B:=b▸B;dsimp only at B;obtain⟨o,P,m,R⟩:=k.ok _ _ B;refine wpAny_storeName_local a (R _ _ P) (fun η n C=>h _ ?_) (by refine ak F.l ?_;rfl);obtain⟨T,θ,ι,i,j⟩:=id n;refine k.name (.inl rfl) B C (bd T i (fun _ _ _=>⟨_,fun h a e=>iO T θ ι e j⟩)) N l (α (.inl rfl) B) X ⟨kU e,by refine ak b ?_;exact⟨l _ _ trivial B,_,n,if_pos rfl⟩⟩ (fun y u U p=>⟨p.1, ?_⟩) S;refine p.elim fun W p=> ?_
  revert p
  induction β:c.pl y with
  |loc A=>
   rintro ⟨p,M,γ,δ⟩;by_cases z:A=c.env.locals
   ·subst z;exact⟨l _ _ trivial p,_,n,(aL fun i=>U (uK W (kU e) i)).trans ((congrFun ((R _ _ P).eq_nsMap.trans γ.eq_nsMap.symm) _).trans δ)⟩
   ·exact⟨l _ _ trivial p,M,γ.sameBut C z,δ⟩
  |cell d=>exact fun p=>⟨l _ _ trivial p.1,p.2.sameBut C (by rintro rfl;have B:=p.1▸B;cases B)⟩
 ·obtain⟨a,d,b,f⟩:=F.cell x e;have B:=f▸B;dsimp only at B;obtain⟨o,P,V,R⟩:=k.ok _ _ B;refine wpAny_storeName_cell F.l a b (bd o P R) fun η n C=>h _ ?_;obtain⟨T,i,j⟩:=id n;refine k.name (aI rfl) B C (bd T i (fun _ _ _=>⟨_,j⟩)) N l (α (aI rfl) B) X ⟨kU e,by refine ak f ?_;exact⟨l _ _ trivial B,n⟩⟩ (fun y u U p=>⟨p.1, ?_⟩) S;refine p.elim fun W p=> ?_
  revert p
  induction β:c.pl y with
  |loc A=>exact fun p=>⟨l _ _ trivial p.1,p.2.imp fun m q=>q.imp_left fun q=>q.sameBut C (by rintro rfl;have B:=p.1▸B;cases B)⟩
  |cell D=>exact fun p=>⟨l _ _ trivial p.1,p.2.sameBut C (by rintro rfl;exact U (F.sep _ _ _ W (kU e) β f))⟩
theorem s0 (o:bj w c) (k:aU c G L Y s) (a:iF c.sc x=af) (N:j5 x L=ai) (D:a8 G d v) (h:∀g S,bV af G g→oR G g→aU c g (fZ x (.l d) L) Y S→Q () S):aH (aN aC c.w) c.A (yD c.env (b_ x) v) Q E s:=
 have l:=Bq fun t e=>by exact ak e cp
 CJ o k a N l (fun b u e=>av ⟨(fn.mp e).2,(fn.mp e).1⟩) (fun b y n e=>fn.mpr ⟨e,fun q=>n (by cases q;rfl)⟩) (sl:=.l d) (D.mono l.ld) fun S=>h _ S l fun b f y e=>(fn.mp e).1
theorem sd (f:bj w c) (k:aU c G L Y s) (v:iF c.sc x=af) (j:j5 x L=ai) (n:G a=ah) (m:s.heap.get? a=ac o) (r:cQ c.w G o q.frz) (h:∀g S,bV af G g→aU c g (fZ x (bE q) L) Y S→Q () S):aH (aN aC c.w) c.A (yD c.env (b_ x) (am a)) Q E s:=by
 have N {b:bp} {t:fl} (e:G b=ac t):b≠a:=by rintro rfl;rw[n] at e;injection e
 have l:bV af G (dt (mn (·=bQ ai x) G) a (bQ ai x)):=fun b t u e=>(hW (N e)).trans (fn.mpr ⟨e,fun z=>by rw[z] at u;injection u⟩);refine CJ f k v j l (fun b u e=>(gc e).elim (fun e=>aI ⟨e.2,⟨q,rfl,o,e.1▸m,r⟩,fun t _ i=>N i e.1,fun d i=> ?_⟩) fun e=>av ⟨(fn.mp e.2).2,(fn.mp e.2).1⟩) (fun b y z e=>(hW (N e)).trans (fn.mpr ⟨e,fun q=>z (by cases q;rfl)⟩)) (bd a rfl hX) fun S=>h _ S l;exact(gc i).elim (fun i=>i.1.trans e.1.symm) fun i=>aR e.2 (fn.mp i.2).2
end
theorem hL [BEq c] [LawfulBEq c] {l:List (c×β)} (h:l.lookup a=ac b):(a,b)∈l:=(Rg.mp h).elim fun _ h=>h.elim fun _ h=>h.1▸eD _ (cU _)
theorem HH {f:bp→Option cl} {l:List bp} (h:kj a (l.filterMap fun a=>(f a).map fun o=>(a,o))=ac o):f a=ac o:=
 (List.mem_filterMap.mp (hL h)).elim fun b h=>(dg.mp h.2).elim fun q h=>(aS f (aS (·.1) h.2).symm).trans (h.1.trans (aS (fun p=>ac p.2) h.2))
noncomputable def hv (P:bX):Frag:=[120,119,180,179,439,438,774,773,897,896,942,941,1051,1050,376,375,96,103,110,117,163,170,177,394,401,408,415,422,429,436,645,652,680,750,894,939,1048].filterMap fun a=>((cO P).get? a).map fun o=>(a,o)
theorem N' (P:bX):(nu.map fun c=>(lZ (hv P) (am c.2) "__getattribute__",lZ (hv P) (am c.2) "__getattr__",(clsIn (hv P) c.2).map (·.hasDict),jU.map fun x=>lZ (hv P) (am c.2) (cW x)))=
 nu.map fun c=>(ac (ac (bJ "object.__getattribute__")),ac ah,ac af,jU.map fun x=>ac ah):=by kernel_rfl
theorem HB (P:bX):([109,156,198,232].map fun c=>(lZ (hv P) (am (eP c)) "__setattr__",plainOver (hv P) (eP c),jW c))=[109,156,198,232].map fun c=>(ac (ac (bJ "object.__setattr__")),af,af):=by kernel_rfl
theorem vG:∀x∈jU,x<iA.length∧copiedNames.contains (cW x)=false:=by decide+kernel
theorem s7 (h:jU.contains x=af):x∈jU:=ee.mp h
theorem sG (h:jW c=af):(c,eP c)∈nu:=(mW.mp h).elim fun a e=>by
 have:=hL e;unfold eP;exact ak e this
theorem uX (P:bX) (h:jW c=af):lZ (hv P) (am (eP c)) "__getattribute__"=ac (ac (bJ "object.__getattribute__"))∧lZ (hv P) (am (eP c)) "__getattr__"=ac ah∧(∃C,clsIn (hv P) (eP c)=ac C∧C.hasDict=af)∧∀x,jU.contains x=af→lZ (hv P) (am (eP c)) (cW x)=ac none:=by
 have h:=jH.mp (N' P) _ (sG h);injection h with a h;injection h with b h;injection h with d e;exact⟨a,b,(dg.mp d),fun x f=>jH.mp e x (s7 f)⟩
theorem BG {Y:ar} (e:ib j x Y=ac a):jU.contains x=af∧fk Y j x=ac a:=by
 unfold ib at e;split at e
 ·exact⟨by assumption,e⟩
 ·injection e
section
variable{Y:ar}
theorem aU.head (k:aU c G L Y s) (h:(cO c.w.params).get? a=ac o):s.heap.get? a=ac o∧∃t,G a=ac t∧(t=.a o∨∃d,t=.d d o):=by
 have y:∃t,d6 c.w a=ac t∧i5 ai t∧(t=.a o∨∃d,t=.d d o):=by
  unfold d6;refine ak h ?_;cases kA.lookup a with
  |none=>exact⟨_,rfl,trivial,av rfl⟩
  |some d=>exact gX _ rfl trivial (aI ⟨d,rfl⟩)
 refine eB y fun t e u q=> ?_;have g:=k.base a t u e;refine⟨ay (k.ok a t g) fun p b z=> ?_,t,g,q⟩;rcases q with rfl|⟨d,rfl⟩
 ·exact z▸b
 ·exact z.1▸b
theorem aU.kf (k:aU c G L Y s):(hv c.w.params).In s.heap:=fun a o e=>(k.head (HH e)).1
structure CL (c:dr) (G:bN) (Y:ar) (s:ct) (a:bp) (j i:Nat) (o b:cl) (d:bp) (m:br→Option aV):Prop where
 cls:f8 Y j=ac i
 ok:jW i=af
 inst:W.InstAt s.heap a o (eP i) (ac b)
 ncls:∀c,o.data≠.cls c
 dict:o.dict=ac d
 tag:G d=ac (g8 j)
 ns:s.heap.Ns1 d m
 look:∀n,lookIn n b=ac (m n)
 attrs:∀x,x<iA.length→mF G j x (m (cW x)) ((fk Y j x).map mi)
 only:∀n,n∉iA→m n=ah
theorem P2 {m:br→Option aV} (h:o.data=k9 E p) (k:StrKeys E) (f:∀x,nsFind E x=m x) (n:br):lookIn n o=ac (m n):=by
 unfold lookIn;refine ak h ?_;dsimp only;refine ak (cB (f n)) ?_;have r:(E.toList.any (·.refKey))=false:=R0.mpr fun e a=>by
  refine oQ (k e (Ru.mp a)) fun n t b=> ?_;unfold DictEntry.refKey;exact ak b cp
 unfold nsFind findBy;refine ak (cB (Array.find?_toList)) ?_;cases E.toList.find? (fun e=>e.key.isStr n) with
 |none=>refine ak r ?_;rfl
 |some e=>rfl
theorem aU.inst (k:aU c G L Y s) (t:G a=ac (ga j)) {g:Prop} (h:∀i o d D m,CL c G Y s a j i o d D m→g):g:=by
 obtain⟨o,u,i,D,v,l,w,b,q,r⟩:=k.ok _ _ t;obtain⟨d,f,_,m,y,z,A⟩:=k.ok _ _ r;have n:=y _ _ f;refine wQ (id n) fun M N p e C F _ I=> ?_;rw[f] at e;injection e with e;subst e;refine h i o d D m ⟨v,l,⟨u,w, ?_,by refine ak q ?_;exact f⟩,b,q,r,n,P2 C F I,z,A⟩;unfold notCls;clear l;generalize o.data=x at b⊢;induction x using PySem.Data.casesOn<;>first|rfl|exact absurd rfl (b _)
theorem QE (h:a8 G d v):handedIn v=true:=by
 induction d using aj.casesOn<;>first|(cases(h);rfl)|(obtain⟨_,h⟩:=h;cases(h);rfl)|(obtain⟨_,h,_⟩:=h;subst h;rfl)|(obtain⟨_,_,h,_⟩:=h;subst h;rfl)
theorem qW {c β:Type} {o:Option c} {a:c} {b:Option β} {f:c→Option β} (h:o=ac a) (g:f a=b):o.bind f=b:=h▸g
theorem AG (k:aU c G L Y s) {a:bp} {x:Nat} {v:ic} (t:G a=ac (ga j)) (e:ib j x Y=ac v) (h:∀u tk,mF G j x (ac u) (ac (mi v))→Q u {s with toks:=tk}):aH (aN aC c.w) c.A (getAttr (am a) (cW x) b) Q E s:=k.inst t fun i o n D m I=>by
 obtain⟨g,e⟩:=BG e;refine iN (uX c.w.params I.ok) fun p M y r=>ay y fun C w z=> ?_;have A:=I.attrs x (vG x (s7 g)).1;have A:=e▸A;have f:∃u,m (cW x)=ac u∧handedIn u=true:=by
  induction v with
  |l d=>exact A.imp fun u h=>⟨h.1,QE h.2⟩
  |box q=>exact A.elim fun b h=>bd _ h.1 rfl
 refine ay f ?_;clear f;intro u f B;refine get_value k.kf I.inst p ?_ B (h u _ (f▸A));have F:W.ownOf C (ac n) (cW x)=ac (ac u):=by
  unfold W.ownOf;exact ak z ((I.look _).trans (aS ac f))
 unfold findObj;exact qW w (qW (r x g) (qW rfl (qW rfl (qW F rfl))))
end
noncomputable def kN (G:bN) (a:bp):bN:=fun b=>if b=a then ah else G b
theorem kC:kN G a b=ac t↔b≠a∧G b=ac t:=by
 unfold kN;by_cases h:b=a
 ·rw[aJ h];exact⟨fun h=>((by injection h)),fun q=>aR h q.1⟩
 ·rw[aL h];exact⟨fun q=>⟨h,q⟩,fun q=>q.2⟩
theorem s6 (l:bV b G g) (n:G a=ah):bV b G (kN g a):=fun d t u e=>kC.mpr ⟨(by rintro rfl;rw[n] at e;injection e),l d t u e⟩
theorem tO:kN G a a=none:=aJ rfl
section
variable{Y:ar}
theorem aU.keep (k:aU c G L Y s) (n:G a=ah) (b:s.heap.get? a=ac o):aU c (dt G a (.a o)) L Y s:=k.tag n b rfl fun _ h=>h.elim
theorem aU.gb (k:aU c G L Y s) (n:G a=ah):d6 c.w a=none:=by
 induction e:d6 c.w a with
 |none=>rfl
 |some t=>
  have:i5 ai t:=by
   unfold d6 at e;split at e
   ·injection e
   ·split at e<;>cases e<;>trivial
  have:=k.base a t this e;rw[n] at this;injection this
theorem aU.rm (k:aU c G L Y s) (n:d6 c.w a=ah) (t:G a=ac (.a o)):aU c (kN G a) L Y s:=by
 have U {b:bp} {u:fl} (h:u≠.a o) (e:G b=ac u):kN G a b=ac u:=kC.mpr ⟨by rintro rfl;rw[t] at e;injection e with e;subst e;exact h rfl,e⟩;have d:oA G (kN G a):=fun b u q e=>U (by rintro rfl;exact q) e;refine k.step (h':=s.heap) d (fun b u q e=>kC.mpr ⟨(by rintro rfl;rw[n] at e;injection e),k.base b u q e⟩) (fun b u e=>aI ⟨(kC.mp e).2,fun _ h=>h,.f fun i x b=>U fun h=>(by injection h)⟩) (fun b e u h x y=>k.solo b e u h (kC.mp x).2 (kC.mp y).2) fun x S e=>(k.fr x S e).imp fun v y=>y.imp (iE.mono d fun _ _ _ h=>h) (jx.mono d fun _ _=>U fun h=>(by injection h))
theorem Am (e:nq j x a Y=ac st'):xu j x a Y st'∧(∀i,f8 Y j=ac i→i∈[109,156,198,232])∧(jp j x=af→fk Y j x=ah):=by
 unfold nq at e;split at e
 ·rename_i h;have b:gk j x a Y=ac st'∧(jp j x=af→ib j x Y=ah):=by
   split at e
   ·split at e
    ·injection e
    ·rename_i q;exact⟨e,fun z=>aR z q⟩
   ·rename_i q;exact⟨e,fun _=>q⟩
  have u:=ql b.1;refine fe u (fun i c=> ?_) (fun z=> ?_)
  ·unfold zE at h;unfold f8 at c;refine ay (dg.mp c) fun q d y=> ?_;subst y;rw[d] at h;exact ee.mp h
  ·have:=b.2 z;unfold ib at this;rw[aJ u.a] at this;exact this
 ·injection e
theorem A6 (k:aU c G L Y s) (I:CL c G Y s a j i o T d m) (p:i∈[109,156,198,232]) (r:jU.contains x=af)
  (h:∀h' tk,h'.Ns1 d (fun y=>if y=cW x then ac v else m y)→hC d s.heap h'→Q () {s with heap:=h',toks:=tk}):aH (aN aC c.w) c.A (uB (am a) (cW x) v) Q E s:=by
 have q:=jH.mp (HB c.w.params) _ p;injection q with t q;injection q with u w;refine iN (uX c.w.params w) fun _ _ z A=>ay z fun C B F=>set_plain k.kf I.inst t ?_;have f:=k.tok (s.toks+1);refine osa_open f.kf I.inst u (by unfold takerIn;refine ak (A x r) ?_;rfl) fun b=> ?_;have l:=I.inst.cls;have M:=I.dict;obtain⟨U,V,W,X⟩:=o;subst l M;refine aG (bo (aG (aG (wpAny_loadPart I.inst.at_ (aG ((looks_clsIn f.kf B).here (ak F (bo (aG (bo (aG (wpAny_nsSet1 I.ns fun h' g N=>(j9 (g.count (Within.cons (cW x) v fun n P=>gl fun q=>P (I.only n q))) fun Z e α D R S=> ?_)))))))))))));exact aG (wpAny_lookBehind D (by refine ak R ?_;exact pastItsLine_dict (ao S (by refine ak jj ?_;exact b3 (lM rfl:iA.length≤16777216)))) (bo (h h' _ g N)))
theorem aU.lat (k:aU c G L Y s) (n:jp j x=af→fk Y j x=ah) (g:∀b t,t≠cJ j x→G b=ac t→a b=ac t):bV ai G a:=fun b t w e=>by
 by_cases h:t=cJ j x
 ·subst h;obtain⟨_,_,q,e,_⟩:=k.ok _ _ e;rw[n (w.resolve_left cp)] at e;injection e
 ·exact g b t h e
theorem aU.attr (k:aU c G L Y s) {tk:Nat} (I:CL c G Y s a j i o ε D m) (u:xu j x U Y st') (N:jp j x=af→fk Y j x=ah)
  (P:h'.Ns1 D (fun y=>if y=cW x then ac v else m y)) (T:hC D s.heap h')
  (g:∀b t,M b=ac t→(t≠cJ j x∧G b=ac t)∨(t=cJ j x∧(∃q,U=b1 q∧∃o,b≠D∧s.heap.get? b=ac o∧cQ c.w G o q.frz)∧∀d,M d=ac t→d=b)) (Q:∀b t,t≠cJ j x→G b=ac t→M b=ac t) (X:mF M j x (ac v) (ac (mi U))):aU c M L st' {s with heap:=h',toks:=tk}:=by
 have l:=k.lat N Q;refine k.step l.ls (k.bs l) (fun b t e=> ?_) (fun b d t w e f=> ?_) fun y S e=>(k.fr y S e).imp fun w z=>z.imp (iE.mono l.ls fun b R q C=>(T.2 b (by rintro rfl;rw[I.tag] at q;exact q.elim (fun q=>nomatch q) fun q=>nomatch q)).trans C) (jx.mono l.ls fun b _ e=>Q _ _ (fun h=>(by injection h)) e)
 ·rcases g b t e with⟨n,e⟩|⟨rfl,⟨q,rfl,o,C,Z,r⟩,_⟩
  ·by_cases C:b=D
   ·have A:∃o,h'.get? D=some o∧ku c.w M st' L o (.dict j):=by
     refine hR (id P) fun R α p β γ=>⟨R,β,u.cls j▸u.B,_,fun h a e=>⟨R,α,p,e,γ⟩,fun y V=> ?_,fun n P=> ?_⟩
     ·rw[u.att];by_cases h:y=x
      ·rw[aJ (aS cW h),aJ ⟨rfl,h⟩];exact h▸X
      ·rw[aL fun q=>h (JJ V (vG x (s7 u.a)).1 q),aL fun q=>h q.2];have:=I.attrs y V;unfold mF at this⊢;split
       ·rename_i q;rw[q] at this;exact this
       ·rename_i q;rw[q] at this;exact this.imp fun _ h=>h.imp_right (a8.mono l.ld)
       ·rename_i q;rw[q] at this;exact this.imp fun _ h'=>h'.imp_right (Q _ _ (by rintro ⟨⟩;exact h rfl))
     ·exact(aL (by rintro rfl;exact P (eR (w5 (vG x (s7 u.a)).1)))).trans (I.only n P)
    exact av (A.imp fun o h=>⟨C▸h.1,(bD (I.tag.symm.trans (C▸e)):_=t)▸h.2⟩)
   ·refine aI ⟨e,fun R h=>(T.2 b C).trans h, ?_⟩;induction t with
    |inst i=>exact u.cls i
    |box i y=>exact(u.att ..).trans (aL fun h=>n (by rw[h.1,h.2]))
    |dict i=>
     have W:i≠j:=by rintro rfl;exact C (k.solo _ _ (g8 i) trivial e I.tag)
     exact⟨u.cls i,fun y=>⟨by rw[u.att,aL fun h=>W h.1],fun b=>Q _ _ (by rintro ⟨⟩;exact W rfl)⟩⟩
    |slot f y=>exact rfl
    |_=>exact trivial
  ·exact av ⟨o,(T.2 b C).trans Z,q,(u.att ..).trans (aJ ⟨rfl,rfl⟩),r.mono l.ld⟩
 ·rcases g b t e with⟨n,δ⟩|⟨rfl,_,q⟩
  ·rcases g d t f with⟨_,F⟩|⟨z,_⟩
   ·exact k.solo b d t w δ F
   ·exact absurd z n
  ·exact(q d f).symm
theorem Au (k:aU c G L Y s) (t:G a=ac (ga j)) (e:nq j x (.l d) Y=ac st') (D:a8 G d v) (h:∀g S,bV ai G g→(∀b f y,G b=ac (bQ f y)→g b=ac (bQ f y))→aU c g L st' S→Q () S):aH (aN aC c.w) c.A (uB (am a) (cW x) v) Q E s:=k.inst t fun i o w z m I=>by
 refine dM (Am e) fun u p N=>A6 k I (p i I.cls) u.a fun A T q r=> ?_;have U:∀b t,t≠cJ j x→G b=ac t→mn (·=cJ j x) G b=ac t:=fun b t n e=>fn.mpr ⟨e,n⟩;have l:=k.lat N U;exact h _ _ l (fun b f y=>U b _ fun h=>(by injection h)) (k.attr I u N q r (fun b t e=>av ⟨(fn.mp e).2,(fn.mp e).1⟩) U (bd v rfl (D.mono l.ld)))
theorem Nu (k:aU c G L Y s) {D:bp} (t:G a=ac (ga j)) (e:nq j x (b1 p) Y=ac st') (n:G D=ah) (q:s.heap.get? D=ac o) (r:cQ c.w G o p.frz) (h:∀g S,bV ai G g→(∀b f y,G b=ac (bQ f y)→g b=ac (bQ f y))→aU c g L st' S→Q () S):aH (aN aC c.w) c.A (uB (am a) (cW x) (am D)) Q E s:=k.inst t fun i B C F m I=>by
 obtain⟨u,v,N⟩:=Am e;refine A6 k I (v i I.cls) u.a fun M T w A=> ?_;have l {b:bp} {t:fl} (e:G b=ac t):b≠D:=by rintro rfl;rw[n] at e;cases e
 have U:∀b t,t≠cJ j x→G b=ac t→dt (mn (·=cJ j x) G) D (cJ j x) b=ac t:=fun b t z e=>(hW (l e)).trans (fn.mpr ⟨e,z⟩);exact h _ _ (k.lat N U) (fun b f y=>U b _ fun h=>nomatch h) (k.attr I u N w A (fun b t e=>(gc e).elim (fun e=>aI ⟨e.2,⟨p,rfl,o,e.1▸(l I.tag).symm,e.1▸q,r⟩,fun d i=>((gc i).elim (fun i=>i.1.trans e.1.symm) fun i=>aR e.2 (fn.mp i.2).2)⟩) fun e=>av ⟨(fn.mp e.2).2,(fn.mp e.2).1⟩) U ⟨D,rfl,hX⟩)
end
variable{wn:bZ×Nat}
noncomputable def mV (S:gM) (y:br):Bool:=aM (S.names.lookup y=ac pC)
noncomputable def mG (S:gM) (g:Nat):Bool:=mV S (ed g)&&((j8.any fun p=>p.2==g)&&(!fx 100 g||((ky g).isSome||(i_.lookup g).isSome)))
noncomputable def we (S:gM) (d:aj) (e:c6):Bool:=match(fK e).c with
 |some q=>mV S q.1&&match lD.lookup q.1 with
  |some c=>aj.beq c d
  |none=>ai
 |none=>match d with
  |.none=>af
  |.bool _=>af
  |.int _=>af
  |.str _=>af
  |_=>ai
noncomputable def p3 (m:bt):Bool:=match m with
 |.call _ []=>ai
 |_=>af
noncomputable def vi (f S:gM) (t:eX):Bool:=aM (S.kind=k4)&& !(fM t).isEmpty&&aM ((S.names.map (·.1)).Nodup)&&aM (fM t).Nodup&&((fM t).all fun i=>aM (fm S i=ac g6))&&
 S.names.all fun p=>match p.2 with
  |.local=>aM (p.1∈(fM t).map b_)||aM (p.1=gp ".0")
  |.free=>aM (p.1∈f0)&&(aM (f.names.lookup p.1=ac gu)||aM (f.names.lookup p.1=ac d'))
  |.globalImplicit=>af
  |_=>ai
mutual
noncomputable def cb (S:gM):bt→c6→Bool
 |.v,_=>ai
 |.h d,e=>we S d e
 |.f x,_=>oy S x
 |.w _ a b,e=>cb S a (bA 0 e)&&cb S b (bA 1 e)
 |.q a,e=>cb S a (bA 0 e)
 |.k _ a b,e=>cb S a (bA 0 e)&&cb S b (bA 1 e)
 |.s _ _ a b c,e=>cb S a (bA 0 e)&&cb S b (bA 1 e)&&cb S c (bA 2 e)
 |.and f,e=>eQ S f (ep e)
 |.or f,e=>eQ S f (ep e)
 |.l c a b,e=>cb S c (bA 0 e)&&cb S a (bA 1 e)&&cb S b (bA 2 e)
 |.j f,e=>eQ S f (ep e)
 |.list f,e=>eQ S f (ep e)
 |.y,_=>af
 |.sub a i,e=>cb S a (bA 0 e)&&cb S i (bA 1 e)
 |.n a l h,e=>cb S a (bA 0 e)&&vS S l (bA 0 (bA 1 e))&&vS S h (bA 1 (bA 1 e))
 |.attr a _,e=>p3 a&&cb S a (bA 0 e)
 |.call g f,e=>mG S g&&eQ S f (ep e).tail
 |.u a _ f,e=>p3 a&&cb S a (bA 0 (bA 0 e))&&((bA 0 e).pos.endLine==e.pos.line)&&aM (f.length<20)&&eQ S f (ep e).tail
 |.comp j t I k,e=>cb S I (bA 2 e)&&vi S (mc e) t&&cb (mc e) j (bA 0 e)&&eQ (mc e) k ((ep e).drop 3)
noncomputable def eQ (S:gM):List bt→List c6→Bool
 |[],_=>af
 |m::r,f=>cb S m (f.headD fy)&&eQ S r f.tail
noncomputable def vS (S:gM):Option bt→c6→Bool
 |.none,_=>af
 |some m,e=>cb S m e
end
structure tN (e:c6):Prop where
 a:∀g f,gt (e::g) f=(ai,bO e f)::gt g f
 mark:∀h,behindInMarks h e=ai
 sub:∀o v,subscripted e ai o v=operate [o,v] (m9 o v)
 fold:∀f x,SD e f x=dm x
theorem I3 {d:aj} {e:c6}:tN (gU d e):=by
 unfold gU;cases(fK e).c with
 |some q=>exact⟨fun _ _=>rfl,fun _=>rfl,fun _ _=>rfl,fun _ _=>rfl⟩
 |none=>induction d using aj.casesOn<;>first|exact⟨fun _ _=>rfl,fun _=>rfl,fun _ _=>rfl,fun _ _=>rfl⟩|(cases(fK e).un<;>exact⟨fun _ _=>rfl,fun _=>rfl,fun _ _=>rfl,fun _ _=>rfl⟩)
theorem hO {S:gM} {m:bt} {e:c6} (h:cb S m e=af):tN (bz m e):=by
 induction m using bt.casesOn with
 |v=>exact aR h cp
 |h d=>exact I3
 |_=>exact⟨fun _ _=>rfl,fun _=>rfl,fun _ _=>rfl,fun _ _=>rfl⟩
section
variable{X:dT} {Z:d1→Prop}
structure bT (b:Bool) (c:dr) (G G':bN) (L:au) (Y:ar) (s:ct):Prop where
 l:bV b G G'
 h:oR G G'
 k:aU c G' L Y s
theorem bT.of {c:dr} {G:bN} {b:Bool} {L:au} {Y:ar} {s:ct} (k:aU c G L Y s):bT b c G G L Y s:=⟨.f,fun _ _ _ f=>f,k⟩
theorem bT.tr {a b:Bool} {c:dr} {G g f:bN} {L L':au} {Y st':ar} {s s':ct} (x:bT a c G g L Y s) (y:bT b c g f L' st' s'):bT (a&&b) c G f L' st' s':=⟨x.l.trans y.l,fun a j i n=>x.h a j i (y.h a j i n),y.k⟩
theorem bT.low {b:Bool} {c:dr} {G g:bN} {L:au} {Y:ar} {s:ct} (x:bT b c G g L Y s):bT ai c G g L Y s:=⟨x.l.low,x.h,x.k⟩
variable(X Z) in
def dq (c:dr) {α β:Type} (b:Bool) (G:bN) (rel:bN→α→β→Prop) (t:au→ar→(α→au→ar→aT)→aT) (p:h8 β):Prop:=
 ∀{L Y s K Q E},aU c G L Y s→aQ X Z (t L Y K)→(∀{d L' st' G' v s'},bT b c G G' L' st' s'→rel G' d v→aQ X Z (K d L' st')→Q v s')→aH (aN aC c.w) c.A p Q E s
variable(wn X Z) in
def b2 (r:gv):Prop:=∀{c m e G},bj wn c→cb c.sc m e=af→dq X Z c m.simple G a8 (r.e m) (bO (bz m e) c.env)
variable(wn X Z) in
def hI (r:gv):Prop:=∀{c m e G},bj wn c→cb c.sc m e=af→dq X Z c m.simple G (fun _ a b=>a=b) (r.t m) (lX (bz m e) c.env (bO (bz m e) c.env))
end
theorem mK (e:lL f d=ac x):∃i,d=ae i∧f i=ac x:=by
 induction d using aj.casesOn<;>first|injection e;done|exact⟨_,rfl,e⟩
theorem sO (e:iB f a b=ac x):∃i j,a=ae i∧b=ae j∧f i j=ac x:=
 (mK e).elim fun i h=>(mK h.2).elim fun j g=>⟨i,j,h.1,g.1,g.2⟩
theorem du [Decidable p] (e:(if p then x else ah)=ac y):p∧x=ac y:=by
 by_cases h:p
 ·rw[aJ h] at e;exact⟨h,e⟩
 ·rw[aL h] at e;injection e
theorem jO (h:n≤b4):n≤sizeLine:=ao h (by refine ak jj ?_;decide)
section
variable{c:dr} {Y:ar}
theorem aU.E (k:aU c G L Y s):l' s.heap G:=fun f a d o t=>eB (k.ok _ _ t) fun p h e r=>by
 subst e;refine⟨h, ?_⟩;induction f<;>exact cE r fun v n e r _=>⟨v,n,e,r⟩
theorem aU.sqv (k:aU c G L Y s) (f:Bool) (h:ha G (kP f ds) v) {g:Prop} (q:∀a vs n,v=am a→G a=ac (.d (kP f ds) (jV f vs n))→s.heap.get? a=ac (jV f vs n)→dy G ds vs→vs.length=ds.length→ds.length≤fR→g):g:=by
 refine bK h fun a o e t=>eB (k.ok _ _ t) fun p b d r=> ?_;subst d;have R:∃vs n,p=jV f vs n∧dy G ds vs∧ds.length≤sizeLine:=by induction f<;>exact r
 obtain⟨vs,n,rfl,r,z⟩:=R;exact q a vs n e t b r r.len z
theorem aU.made (k:aU c G L Y s) (f:o.isFreed=ai) (r:cQ c.w G o d):bT af c G (dt G s.heap.objs.size (.d d o)) L Y {s with heap:=s.heap.push o}∧ha (dt G s.heap.objs.size (.d d o)) d (am s.heap.objs.size):=
 ⟨⟨jP k.B,fun a l x h=>(gc h).elim (fun h=>nomatch h.2) fun h=>h.2,k.new f r⟩,_,_,rfl,hX⟩
theorem Qv (d:s.heap.get? a=ac (jV f vs k)) (g:s.heap.get? b=ac (jV f us l)) (hz:vs.length+us.length≤fR)
  (i:vs=[]→Q (am b) s) (j:us=[]→Q (am a) s) (h:Q (am s.heap.objs.size) {s with heap:=s.heap.push (jV f (vs++us) 0)}):aH (aN aC c.w) c.A (oe b9 (am a) (am b)) Q E s:=by
 have e:vs.toArray++us.toArray=(vs++us).toArray:=xZ ..;have z:vs.toArray.size+us.toArray.size≤2^24:=by exact ak d2 (ak d2 hz)
 induction f with
 |false=>
   exact yp ⟨_,d,rfl⟩ ⟨_,g,rfl⟩ noFill_list_add seq_list_add PySem.F.slot_list_add PySem.F.entry_list_add (PySem.F.args_list_add_2 _ _) (list_addW a b vs.toArray us.toArray k l ah ah #[] #[] z) (fe d g ((ak e h)))
 |true=>
  by_cases v:vs=[]
  ·exact yp ⟨_,d,rfl⟩ ⟨_,g,rfl⟩ Ee EH Dt Dr (Dq _ _) (tuple_addW0 a b vs.toArray us.toArray k l ah ah #[] #[] (by simp[v])) (fe d g (i v))
  ·by_cases u:us=[]
   ·exact yp ⟨_,d,rfl⟩ ⟨_,g,rfl⟩ Ee EH Dt Dr (Dq _ _)
     (tuple_addW1 a b vs.toArray us.toArray k l ah ah #[] #[] (by simpa using v) (by simp[u])) ⟨d,g,j u⟩
   ·refine yp ⟨_,d,rfl⟩ ⟨_,g,rfl⟩ Ee EH Dt Dr (Dq _ _)
     (tuple_addW2 a b vs.toArray us.toArray k l ah ah #[] #[] (by simpa using v) (by simpa using u) z) ⟨d,g, ?_⟩
    exact ak e h
theorem KW (b:List aV) (n:Nat):∀(acc:List aV),(cx n b.toArray).foldl (·++·) acc.toArray=(acc++(cx n b).flatten).toArray:=by
 exact n.rec (fun acc=>aS Ep (c8 acc).symm) fun n i=>fun acc=>by rw[RD,t_,RD,D2,xZ,i,ef]
theorem oP {n:Nat} (h:n≤16777216):(n:Int)<2^63:=g5.mpr (aD (b3 h) rfl)
theorem qj {n:Nat} (h:n≤16777216):¬(n:Int)≥2^63:=oa.mpr (oP h)
theorem B6 {i:Int} {n:Nat} (h:0≤i) (q:i<n):i.natAbs<n:=g5.mp (DY (yk (Int.natAbs_of_nonneg h)) q)
theorem Is (b:s.heap.get? a=ac (d5 vs k)) (f: -1000≤x) (d:x≤1000) (hz:vs.length≤1000)
  (h:Q (am s.heap.objs.size) {s with heap:=s.heap.push (d5 (cx x.toNat vs).flatten 0)}):aH (aN aC c.w) c.A (oe oo (am a) (aq x u)) Q E s:=by
 have m:vs.toArray.size*x.toNat≤2^24:=by
  rw[d2];exact aD (k2 hz (SW.mpr d)) rfl
 have e:List.foldl (fun X g=>X++g) #[] (cx (if vs.toArray.isEmpty=af then 0 else x.toNat) vs.toArray)=(cx x.toNat vs).flatten.toArray:=by
  exact vs.casesOn (show#[]=_ by rw[show(cx x.toNat ([]:List aV)).flatten=[] from List.flatten_replicate_nil]) fun v r=>KW (v::r) x.toNat []
 refine wpAny_binaryOp_repeat_ref (by decide) ⟨_,b,rfl⟩ (fun S=>typeIs_int S x u) noFill_list_mul F.fills_int_mul SH repeat_list F.slot_int_index.lookup
  (ob SH (typeIs_int s x u) F.entry_int_rmul (F.args_int_rmul_2 _ _) (int___rmul___int_list x u a vs.toArray k)
   ⟨b,rfl,⟨_,b,rfl⟩,ob F.slot_list_mul ⟨_,b,rfl⟩ F.entry_list_mul (F.args_list_mul_2 _ _)
    (AutoListH.list___mul___list_int_3 a vs.toArray k x u (by simp[T'];exact⟨lQ (by decide) f,DY d (by decide)⟩) (e7 (ao m (by decide))) (by simp[QU,fR];simpa using m))
    ⟨b, ?_⟩⟩)
 exact ak e h
theorem Nl {b:Int} (h:b≤1000) (a:ds.length≤1000):(cx b.toNat ds).flatten.length≤sizeLine:=by
 rw[RF,DU,Rk,jj];exact aD (k2 (SW.mpr h) a) rfl
section
theorem nn (k:aU c G L Y s) (e:iB f a b=ac d) (m:a8 G a V) (n:a8 G b p) (h:∀{l v S},bT af c G l L Y S→a8 l d v→Q v S)
  (g:∀i j t u,f i j=ac d→(∀i,d=ae i→Q (aq i s.toks) {s with toks:=s.toks+1})→aH (aN aC c.w) c.A (oe o (aq i t) (aq j u)) Q E s):aH (aN aC c.w) c.A (oe o V p) Q E s:=by
 refine cE (sO e) fun i j y q e=> ?_;subst y;subst q;obtain⟨t,rfl⟩:=m;obtain⟨u,rfl⟩:=n;exact g i j t u e fun i e=>h (.of (k.tok _)) (e▸⟨_,rfl⟩)
theorem AI (k:aU c G L Y s) (f:Bool) (i:ha G (kP f x) V) (j:ha G (kP f y) p) (Z:(if x.length+y.length≤b4 then ac (kP f (x++y)) else ah)=ac d) (h:∀{g v S},bT af c G g L Y S→ha g d v→Q v S):aH (aN aC c.w) c.A (oe b9 V p) Q E s:=by
 refine(du Z).elim fun z e=> ?_;injection e with e;subst e;refine k.sqv f i fun a q n e t w r l _=>k.sqv f j fun b u m A T B R C _=> ?_;subst e A;refine Qv w B (by rw[l,C];exact jO z) (fun e=> ?_) (fun e=> ?_) ?_
 ·subst e;cases r;exact h (.of k) ⟨_,_,rfl,T⟩
 ·subst e;cases R;rw[c8] at h;exact h (.of k) ⟨_,_,rfl,t⟩
 ·have m:=k.made (o:=jV f (q++u) 0) (d:=kP f (x++y)) rfl (by induction f<;>exact⟨_,_,rfl,R.app r,by rw[bi];exact jO z⟩);exact h m.1 m.2
theorem Kx (k:aU c G L Y s) (e:eJ b9 a b=ac d) (l:a8 G a V) (m:a8 G b n) (h:∀{g v S},bT af c G g L Y S→a8 g d v→Q v S):aH (aN aC c.w) c.A (oe b9 V n) Q E s:=by
 induction a using aj.casesOn with
 |c x=>induction b using aj.casesOn with
  |c y=>exact AI k ai l m e fun p r=>h p (by cases(du e).2;exact r)
  |_=>injection e
 |j x=>induction b using aj.casesOn with
  |j y=>exact AI k af l m e fun p r=>h p (by cases(du e).2;exact r)
  |_=>injection e
 |int i=>exact nn k e l m h fun i o t u e f=>P.add_int (f _ (bD e).symm)
 |_=>injection e
theorem K7 (k:aU c G L Y s) (e:eJ oo a b=ac d) (p:a8 G a V) (q:a8 G b w) (h:∀{g v S},bT af c G g L Y S→a8 g d v→Q v S):aH (aN aC c.w) c.A (oe oo V w) Q E s:=by
 induction a using aj.casesOn with
 |c x=>
  refine ay (mK e) fun j y e=> ?_;subst y;obtain⟨⟨A,z,Z⟩,e⟩:=du e;obtain⟨u,rfl⟩:=q;injection e with e;subst e;refine k.sqv ai p fun a B n e t C r l _=> ?_;subst e;have m:=k.made (o:=d5 (cx j.toNat B).flatten 0) (d:=.c (cx j.toNat x).flatten) rfl ⟨_,_,rfl,r.rep _,Nl z Z⟩;exact Is C A z (l▸Z) (h m.1 m.2)
 |int i=>exact nn k e p q h fun i j t u e f=>P.mul_int (f _ (bD (du e).2).symm) (IntMulOk.of_right (intBits_le_64 (ui (uh (by decide) (dB (du e).1).1)) (uh (dB (du e).1).2 (by decide))))
 |_=>injection e
theorem FU (k:aU c G L Y s) (l:a8 G a V) (m:a8 G b n) (h:∀{g v S},bT af c G g L Y S→a8 g d v→Q v S) (e:eJ o a b=ac d):aH (aN aC c.w) c.A (oe o V n) Q E s:=by
 induction o with
 |Add=>exact Kx k e l m h
 |Sub=>exact nn k e l m h fun i j t u e f=>P.sub_int (f _ (bD e).symm)
 |Mult=>exact K7 k e l m h
 |Mod=>exact nn k e l m h fun i j t u e f=>mod_int' (SX (du e).1) (f _ (bD (du e).2).symm)
 |FloorDiv=>exact nn k e l m h fun i j t u e f=>floordiv_int (SX (du e).1.1) (f _ (bD (du e).2).symm) (av (PyProof.noPylong_small (B6 (ui (du e).1.1) (uh (du e).1.2 (by decide)))))
 |BitAnd=>exact nn k e l m h fun i j t u e f=>and_int (f _ (bD e).symm)
 |BitOr=>exact nn k e l m h fun i j t u e f=>or_int (f _ (bD e).symm)
 |_=>injection e
end
end
variable{wn:bZ×Nat}
theorem bj.u (o:bj wn c):c.A.units+66<cLine:=by have U:=o.d;unfold pQ;exact cD (.c 1 (.a (.a .b (.m 40 .f)) (.n 40)) (.n 9000) (.g 1 (.a (.a .b (.n 66)) .n1) (.n 9900))) rfl U
theorem xd (h:n+66<k) (a:m≤66):n+m<k:=jg (cj a n) h
theorem tu (p:aj.plain 8 d=af):SeqAt.shaped (ik d)=true:=bS.mpr ⟨(o8 8 d p).1,cu (aD (o8 8 d p).2 rfl)⟩
section
variable{c:dr} {Y:ar}
section
theorem zq (o:bj wn c) (k:aU c G L Y s) (f:a8 G a V) (i:a8 G b d) (e:ti a b=ac v):(Q (cC v) s→aH (aN aC c.w) c.A (gr a6 V d) Q E s)∧(Q (cC (!v)) s→aH (aN aC c.w) c.A (gr eG V d) Q E s):=by
 have g:(if aj.plain 8 a&&aj.plain 8 b then ac (aj.beq a b) else ah)=ac v→(Q (cC v) s→aH (aN aC c.w) c.A (gr a6 V d) Q E s)∧(Q (cC (!v)) s→aH (aN aC c.w) c.A (gr eG V d) Q E s):=fun e=>by
  refine(du e).elim fun p e=> ?_;obtain⟨p,q⟩:=bS.mp p;refine ak (cB (bD e)) ?_;obtain⟨A,r⟩:=oO k.E 8 _ p _ f;obtain⟨B,R⟩:=oO k.E 8 _ q _ i;have u:c.A.units+64<cLine:=xd o.u (by decide);have x:=u2 8 a p 8 b q;exact EP (fun h=>eq_dataH r R (tu p) (tu q) u (by refine ak x ?_;exact h)) fun h=>ne_dataH r R (tu p) (tu q) u (by refine ak x ?_;exact h)
 induction a using aj.casesOn with
 |bool x=>
  induction b using aj.casesOn with
  |bool y=>subst f;subst i;injection e with e;subst e;exact⟨eq_bool,ne_bool⟩
  |_=>injection e
 |_=>exact g e
theorem AW (e:wV a=ac v) (b:a8 G a V):(Q (cC v) s→aH (aN aC c.w) c.A (gr .Is V dj) Q E s)∧(Q (cC (!v)) s→aH (aN aC c.w) c.A (gr pN V dj) Q E s):=by
 have r:v=ai→(∃a,V=am a)→(Q (cC v) s→aH (aN aC c.w) c.A (gr .Is V dj) Q E s)∧(Q (cC (!v)) s→aH (aN aC c.w) c.A (gr pN V dj) Q E s):=fun e z=>z.elim fun a h=>by subst e h;exact⟨is_ref_none,isnot_ref_none⟩
 induction a using aj.casesOn with
 |none=>subst b;injection e with e;subst e;exact⟨is_none_none,isnot_none_none⟩
 |j _=>injection e with e;subst e;exact r rfl (b.imp fun _ h=>h.elim fun _ h=>h.1)
 |c _=>injection e with e;subst e;exact r rfl (b.imp fun _ h=>h.elim fun _ h=>h.1)
 |e _=>injection e with e;subst e;exact r rfl (b.imp fun _ h=>h.elim fun _ h=>h.1)
 |inst _=>injection e with e;subst e;exact r rfl (b.imp fun _ h=>h.1)
 |box _ _=>injection e with e;subst e;exact r rfl (b.2.imp fun _ h=>h.1)
 |_=>injection e
theorem B1 (e:iB (oY o) a b=ac v) (d:a8 G a V) (f:a8 G b g) (h:Q (cC v) s):aH (aN aC c.w) c.A (gr o V g) Q E s:=by
 refine cE (sO e) fun i j y k e=> ?_;subst y;subst k;obtain⟨t,rfl⟩:=d;obtain⟨u,rfl⟩:=f;induction o<;>first|(injection e;done)|injection e with e;subst e
 ·exact P.lt_int h
 ·exact P.le_int h
 ·exact P.gt_int h
 ·exact P.ge_int h
theorem Pt (o:bj wn c) (k:aU c G L Y s) (e:wq p a b=ac v) (d:a8 G a V) (f:a8 G b g) (h:Q (cC v) s):aH (aN aC c.w) c.A (gr p V g) Q E s:=by
 induction p with
 |Eq=>exact(zq o k d f e).1 h
 |NotEq=>obtain⟨u,q,rfl⟩:=dg.mp (e);exact(zq o k d f q).2 h
 |Is=>induction b using aj.casesOn with
  |none=>subst f;exact(AW e d).1 h
  |_=>injection e
 |IsNot=>induction b using aj.casesOn with
  |none=>subst f;obtain⟨u,q,rfl⟩:=dg.mp (e);exact(AW q d).2 h
  |_=>injection e
 |_=>exact B1 e d f h
theorem tj (e:y5 o a b=ac v) (d:a8 G a V) (f:a8 G b g) (h:Q (cC v) s):aH (aN aC c.w) c.A (gr o V g) Q E s:=by
 induction a using aj.casesOn with
 |str i=>induction b using aj.casesOn with
  |str j=>
   obtain⟨t,rfl⟩:=d;obtain⟨u,rfl⟩:=f;induction o<;>first|(injection e;done)|skip
   injection e with e;subst e;exact PySem.P.le_str h
  |_=>injection e
 |_=>exact B1 e d f h
end
theorem dQ.d (x:dQ R ds vs):vs.isEmpty=ds.isEmpty:=by induction x<;>rfl
theorem sP (k:aU c G L Y s) (e:zZ d=ac b) (D:a8 G d v) (h:∀t,Q b {s with toks:=t}):aH (aN aC c.w) c.A (rC v) Q E s:=by
 induction d using aj.casesOn with
 |none=>subst D;injection e with e;subst e;exact fun _ _ _=>h s.toks
 |bool c=>subst D;injection e with e;subst e;exact rg (h s.toks)
 |int i=>obtain⟨t,rfl⟩:=D;injection e with e;subst e;exact P.truthy_int (h s.toks)
 |str x=>
  obtain⟨t,rfl⟩:=D;obtain⟨f,e⟩:=du e;have l:(x.length:Int)=(x.cps.size:Int):=rfl;refine P.truthy_str (by rw[l];exact qj (aD f rfl)) ?_;have g:((x.length:Int)!=0)= !x.cps.isEmpty:=by
   rw[l];unfold Array.isEmpty;rcases DX x.cps.size with e|e
   ·refine ak e ?_;rfl
   ·rw[decide_eq_false (Nat.ne_of_gt e)];exact bne_iff_ne.mpr fun q=>gI 0 (dh q▸e)
  exact ak g (ak (bD e) (h _))
 |j m=>
  injection e with e;subst e;exact k.sqv af D fun a V n e t o r l z=>by
   subst e;exact PySem.W.ktl_truthy o (by rw[d2,l];exact qj (jj▸z)) (by rw[DK,r.d];exact h _)
 |c m=>
  injection e with e;subst e;exact k.sqv ai D fun a V n e t o r l z=>by
   subst e;exact SB ⟨_,o,rfl,n,rfl⟩ (by rw[d2,l];exact oP (jj▸z)) (by rw[DK,r.d];exact h _)
 |_=>injection e
end
open scoped Classical
variable{wn:bZ×Nat}
section
variable{Y:ar}
theorem A5 (h:jX d=af) (g:i7 d=af):False:=by induction d using aj.casesOn<;>first|exact absurd h Bool.false_ne_true|exact absurd g Bool.false_ne_true
theorem ta (K:l' h G) (q:oG G k A):∀x∈A,tI h x.1 x.2.1:=by
 exact q.rec (fun _ h=>nomatch h) fun a _ i=>fun x b=>(eS.mp b).elim (fun e=>e▸bd G K a.2.1) (i x)
theorem nE (k:aU c G L Y s) (F:s.heap.get? a=ac o) (r:cQ c.w G o (.e g)) (e:cT key g=af) (D:a8 G key vk) {P:Prop}
  (M:∀i t A,key=ae i→vk=aq i t→mL G g A→s.heap.DictOf (md c.w) a A→P) (N:∀x b A,key=x.1→vk=am b→oG G g A→s.heap.DictOfH (g0 c.w) a A→tI s.heap x b→P):P:=by
 obtain⟨Q,E⟩:=bS.mp e;obtain⟨z,r⟩:=r;have I:jX key=af→∀A,mL G g A→s.heap.DictOf (md c.w) a A→P:=by
  induction key using aj.casesOn with
  |int i=>exact fun _ A q d=>D.elim fun t e=>M i t A rfl e q d
  |_=>exact fun h=>aR h cp
 have T:i7 key=af→∀A,oG G g A→s.heap.DictOfH (g0 c.w) a A→P:=by
  induction key using aj.casesOn with
  |j R=>exact fun h A q d=>bK (id D) fun b o y t=>N ⟨.j R,Q,h⟩ b A rfl y q d ⟨G,k.E,y▸D⟩
  |_=>exact fun h=>aR h cp
 refine r.elim (fun z=>ay z fun A q d=> ?_) fun z=>ay z fun A q d=> ?_
 ·have d:=d _ _ F;induction g using cn with
  |nil=>
   refine((dK ..).mp E).elim (fun h=>I h A q d) fun h=>T h [] cI ?_;have q:=fs.mp (dQ.len q);refine lI d fun m n u v w B _ f S=>sB m n u v w B (?_) (fun _ h=>(nomatch h)) ye;rw[q] at f;generalize n.toList=l at f;cases f;rfl
  |cons p r=>
   have C:jX p.1=true:=ay (dQ.get q (k:=0) rfl) fun _ _ h=>by refine ak h.1 ?_;rfl
   exact I (((dK ..).mp E).elim (fun h=>(bS.mp h).2) fun h=>(A5 C (bS.mp h).1).elim) A q d
 ·have d:=d _ _ F (ta k.E q);induction g using cn with
  |nil=>
   refine((dK ..).mp E).elim (fun h=>I h [] cI ?_) fun h=>T h A q d;have q:=fs.mp (dQ.len q);refine lI d fun m n u v w B f _ S=> ?_;rw[q] at f;have f:=Array.toList_eq_nil_iff.mp f;subst f;exact⟨m,_,u,v,w,B,fun _ h=>aR h (DN _),.nil,ye⟩
  |cons p r=>
   have C:i7 p.1=true:=ay (dQ.get q (k:=0) rfl) fun x _ h=>by exact ak h.1 x.1.2.2
   exact T (((dK ..).mp E).elim (fun h=>(A5 (bS.mp h).1 C).elim) fun h=>(bS.mp h).2) A q d
theorem bj.rm (o:bj wn c):c.A.in1.units+10<cLine:=by rw[ev];exact xd o.u (by decide)
theorem FI (P:bX):((cO P).get? yy).isSome=true:=by kernel_rfl
theorem aU.nmod (k:aU c G L Y s) (h:∀o,G a≠ac (.a o)):(a==yy)=false:=c5.mpr (by
 rintro rfl;obtain⟨o,e⟩:=mW.mp (FI c.w.params);refine h o (k.base _ _ trivial ?_);unfold d6;refine ak e ?_;rfl)
theorem O' (l:bj wn c) (k:aU c G L Y s) (n:∀o,G a≠ac (.a o)) {Q:aV→ct→Prop} (m:s.heap.get? a=ac o) (r:cQ c.w G o (.e j)) (e:cT key j=af) (D:a8 G key vk)
  (q:∀t,Q (cC (dA key j)) {s with toks:=t}):aH (aN aC c.w) c.A (gr c7 vk (am a)) Q E s:=nE k m r e D
 (fun i t A f g h d=>by subst f g;exact wpAny_in_of (ut aC c.w i t) (k.nmod n) d.mapOf (by refine ak (show(valueAt A i).isSome=_ from(h.has q7 i).symm) ?_;exact q _))
 fun x b A f g h d i=>by subst f g;exact wpAny_in_heap l.rm i (k.nmod n) d (by refine ak (show(om A x).isSome=_ from(h.has mQ x).symm) ?_;exact q _)
theorem F' (p:bj wn c) (k:aU c G L Y s) {vk:aV} (u:s.heap.get? a=ac o) (r:cQ c.w G o (.e l)) (e:cT key l=af) (w:a8 G key vk)
  (n:f1 key l=ac d) (q:∀v t,a8 G d v→Q v {s with toks:=t}):aH (aN aC c.w) c.A (m9 (am a) vk) Q E s:=nE k u r e w
 (fun i t A f j h m=>by
  subst f j;rcases h.get q7 i with⟨h,_⟩|⟨y,v,h,g,D⟩<;>have h:=n▸h<;>cases h;exact wpAny_getItem_of (intKind_is aC c.w i t) m.mapOf g (q _ _ D))
 fun x b A f j h m i=>by
  subst f j;rcases h.get mQ x with⟨h,_⟩|⟨y,v,h,g,D⟩<;>have h:=n▸h<;>cases h;exact wpAny_getItem_heap p.rm i m g (q _ _ D.2)
theorem Hm (k v:aj):∀s:List (aj×aj),(gd k v s).length≤s.length+1:=by
 intro s;induction s with
 |nil=>exact bv _
 |cons X r i=>
  obtain⟨x,w⟩:=X;refine(?_:(if aj.beq x k=af then(x,v)::r else(x,w)::gd k v r).length≤_)
  split
  ·exact fQ _
  ·exact b3 (i)
theorem LC (k:aj):∀s:List (aj×aj),(hT k s).length≤s.length:=by
 intro s;induction s with
 |nil=>exact bv _
 |cons X r i=>
  obtain⟨x,w⟩:=X;refine(?_:(if aj.beq x k=af then r else(x,w)::hT k r).length≤_)
  split
  ·exact fQ _
  ·exact b3 (i)
theorem zj [DecidableEq a]:∀{l:List (a×β)},(l.any fun x=>aM (x.1=k))=af↔k∈l.map (·.1):=by
 intro l;rw[t6,cr];exact⟨fun z=>ay z fun x h e=>bd x h (dB e),fun z=>ay z fun x h e=>bd x h (cu e)⟩
theorem Gd (P:bj wn c) (k:aU c G L Y s) {vk:aV} (R:s.heap.get? a=ac o) (r:cQ c.w G o (.e j)) (e:cT key j=af) (C:a8 G key vk)
  (hz:j.length≤b4) (D:a8 G d v) (q:∀h' t f,hC a s.heap h'→h'.get? a=ac f→cQ c.w G f (.e (gd key d j))→Q () {s with heap:=h',toks:=t}):aH (aN aC c.w) c.A (setItem (am a) vk v) Q E s:=by
 have l:(gd key d j).length≤sizeLine:=ao (Hm ..) (ao (b3 hz) (by refine ak jj ?_;decide));refine nE k R r e C (fun i t A F I h m=> ?_) fun x b A F I h m i=> ?_<;>subst F I
 ·refine wpAny_setItem_pairs (ut aC c.w i t) m (fun h' M u=> ?_) (by refine ak h.len ?_;exact r.1);refine lI m fun _ _ _ _ _ _ _ _ n=>hR M fun f w p y B=>q h' _ f u y ⟨l,av (bd _ (?_) (fun h a e=>iO f w p e B))⟩;show mL G _ (if A.any (fun S=>aM (S.1=i))=af then _ else _)
  split
  ·rename_i g;exact AQ q7 h (fun _ _ _=>⟨rfl,D⟩) n (zj.mp g)
  ·rename_i g;exact Bu q7 D h fun z=>g (zj.mpr z)
 ·refine wpAny_setItem_heap P.rm i m (fun h' M u=> ?_) (by refine ak h.len ?_;exact r.1);refine lI m fun _ _ _ _ _ _ _ _ n=>lI M fun f w p y B T U _ V=>q h' _ f u y ⟨l,aI (bd _ (?_) (fun h a e i=>sB f w p e B T U i V))⟩;show oG G _ (if(om A x).isSome=af then _ else _)
  have N:(om A x).isSome=af↔x∈A.map (·.1):=by unfold om;exact ak Option.isSome_map OG
  split
  ·rename_i g;exact AQ mQ h (fun _ _ h=>fe rfl h.1 D) n (N.mp g)
  ·rename_i g;exact Bu mQ ⟨C,D⟩ h fun z=>g (N.mpr z)
end
def jw (w:bZ) (G:bN) (h:fT) (v:aV) (q:fN):Prop:=match q with
 |.str x=>∃t,v=ba x t
 |.j d=>ha G (.j d) v
 |.c d=>∃a o,v=am a∧h.get? a=ac o∧(∀p,G a≠ac (.a p))∧cQ w G o (.c d)
 |.e k=>∃a o,v=am a∧h.get? a=ac o∧(∀p,G a≠ac (.a p))∧cQ w G o (.e k)
def ly (G:bN) (q:nM) (v:aV):Prop:=match q with
 |.slot x=>∃a l,v=am a∧G a=ac (bQ l x)
 |.sq d=>a8 G d v∨∃j x a,d=da j x∧v=am a∧G a=ac (cJ j x)
theorem ly.of (h:a8 G d v):ly G (dI d) v:=av h
theorem ly.bx (h:ly G (dI (da j x)) v):∃a,v=am a∧G a=ac (cJ j x):=h.elim (fun h=>h.2) fun z=>hR z fun _ _ a e h=>by injection e with a b;subst a;subst b;exact⟨a,h⟩
section
variable{c:dr} {Y:ar}
theorem AJ {p:b0} (b:G a=ac t) (n:∀q,t≠.a q) (d:h.get? a=ac o) (r:cQ w G o p.frz):jw w G h (am a) p.sq:=by
 have n:∀q,G a≠ac (.a q):=fun q e=>by rw[b] at e;exact n q (bD e)
 induction p<;>exact hK a o rfl d n r
theorem GV (e:dR j x Y=ac p):ib j x Y=ac (b1 p):=by
 unfold dR at e;induction h:ib j x Y with
 |none=>rw[h] at e;injection e
 |some a=>rw[h] at e;induction a<;>cases e;rfl
theorem aU.box (k:aU c G L Y s) (t:G a=ac (cJ j x)) (e:dR j x Y=ac p):fk Y j x=ac (b1 p)∧∃o,s.heap.get? a=ac o∧cQ c.w G o p.frz:=by
 have e:=(BG (GV e)).2;obtain⟨o,b,q,h,r⟩:=k.ok _ _ t;have h:=e▸h;cases h;exact⟨e,o,b,r⟩
theorem aU.sq (k:aU c G L Y s) (C:ly G (dI d) v) (e:d.sq Y=ac q):jw c.w G s.heap v q:=by
 have D:∀{d},ha G d v→∃a o,v=am a∧s.heap.get? a=ac o∧(∀p,G a≠ac (.a p))∧cQ c.w G o d:=fun z=>bK z fun a o e t=>by
  refine eB (k.ok _ _ t) fun p f l r=> ?_;exact hK a p e f ((fun q h=>by have h:=t▸h;cases h)) r
 have N:(∀b x,d≠da b x)→a8 G d v:=fun n=>C.elim id fun z=>hR z fun b x _ e _=>aR e (n b x);induction d using aj.casesOn with
 |j g=>injection e with e;subst e;exact N nofun
 |c g=>injection e with e;subst e;exact D (N nofun)
 |e g=>injection e with e;subst e;exact D (N nofun)
 |str x=>injection e with e;subst e;exact N nofun
 |box b x=>
  refine ay C.bx fun a y t=> ?_;subst y;refine ay (dg.mp e) fun p f i=> ?_;subst i;exact(k.box t f).2.elim fun o h=>AJ t (fun _ h=>(by injection h)) h.1 h.2
 |_=>injection e
theorem rK {S:fN} (k:aU c G L Y s) (C:ly G q v) (p:bT b c G n r w B) (D:q.box=af→b=af) (e:q.now r w=ac S):jw c.w n B.heap v S:=by
 induction q with
 |slot x=>
  refine bK C fun a l y t=> ?_;subst y;refine ay (dg.mp (e)) fun z i y=> ?_;subst y;obtain⟨f,E⟩:=nQ i;refine ay (p.k.peek E) fun A _ T=> ?_;have u:=p.h _ _ _ T;obtain⟨_,_,Z,F,_⟩:=k.ok _ _ t;obtain⟨_,_,m,g,_⟩:=k.ok _ _ u;rw[F] at g;obtain⟨rfl,_⟩:=kG (bD g);have:=k.solo _ _ (bQ l x) trivial t u;subst this;exact(p.k.slAt T i).2.elim fun o h=>AJ T (fun _ h=>(by injection h)) h.1 h.2
 |sq d=>exact p.k.sq (C.imp (a8.mono p.l.ld) fun z=>z.elim fun j Z=>Z.elim fun x m=>m.elim fun a I=>I.elim fun e h=>mx j x a e h.1 (p.l a _ (av (D (e▸rfl))) h.2)) e
theorem rO (h:i4 i n=ac j) (hz:n≤fR):EV i n=ac j∧-(2^63)≤i∧i<2^63∧((0≤i∧i.toNat=j)∨(i<0∧-(n:Int)≤i∧(i+n).toNat=j)):=by
 rw[jj] at hz;unfold i4 at h;unfold EV;by_cases a:0≤i
 ·rw[aJ a] at h;obtain⟨b,e⟩:=du h;injection e with e;subst e;have:=hD.mpr a;refine nD (?_) (lQ (by decide) a) (uh b (oP hz)) (av ⟨a,rfl⟩);simp only[this,if_false];exact aJ (by simp;exact⟨a,b⟩)
 ·rw[aL a] at h;obtain⟨b,e⟩:=du h;injection e with e;subst e;have:=oa.mp a;have d: -(n:Int)≤i:=Int.zero_sub n▸xT b;refine nD (?_) (lQ (Sx (ui (oP hz))) d) (uh this (by decide)) (aI ⟨this,d,rfl⟩);simp only[this,if_true];exact aJ (by simp;exact⟨b,R7 (RL this n) (yk (ED _))⟩)
theorem zJ (k:aU c G L Y s) {S:fN} (q:jw c.w G s.heap v S):∃T i,s.TypeIs v T∧typeLookup (bn T) "__getitem__"=dm (ac (bJ i)):=by
 induction S with
 |c D=>obtain⟨a,o,rfl,b,_,V,n,rfl,_⟩:=q;exact⟨"list",_,(bd _ b rfl),slot_list_getitem.lookup⟩
 |j D=>exact k.sqv af q fun a V n E t b r l z=>⟨"tuple",_,E▸(bd _ b rfl),D8.lookup⟩
 |e f=>
  refine B3 q fun a o y b _ _ r=> ?_;subst y;refine cL ("dict") _ (⟨o,b, ?_⟩) slot_dict_getitem.lookup;rcases r with⟨A,q,d⟩|⟨A,q,d⟩
  ·refine j9 (d _ _ b) fun _ _ _ h E _=> ?_;rw[b] at h;injection h with h;subst h;exact E.1
  ·refine j9 (d _ _ b (ta k.E q)) fun _ _ _ h E _=> ?_;rw[b] at h;injection h with h;subst h;exact E.1
 |str x=>obtain⟨t,rfl⟩:=q;exact cL ("str") _ (typeIs_str _ _ _) PySem.F.slot_str_getitem.lookup
theorem FL (U:bj w c) (k:aU c G L Y s) {S:fN} (q:jw c.w G s.heap v S) (D:a8 G i W) (e:eA S i=ac d) (h:∀u t,a8 G d u→Q u {s with toks:=t}):aH (aN aC c.w) c.A (m9 v W) Q E s:=by
 induction S with
 |c X=>
  obtain⟨a,o,rfl,b,_,V,n,rfl,r,z⟩:=q;obtain⟨i,rfl,e⟩:=mK e;obtain⟨t,rfl⟩:=D;refine ay (jG.mp e) fun M m e=>ay (r.get e) fun u A p=> ?_;refine iN (rO m z) fun _ f F Z=> ?_;have N:=(pn ..).trans A;have l:s.heap.IsList a V.toArray:=⟨_,b,rfl,n,rfl⟩;have R:=(d2 ..).trans r.len;rcases Z with⟨g,B⟩|⟨g,B,α⟩
  ·exact wpAny_getItem_list l g F (by refine ak B ?_;exact N) (h u s.toks p)
  ·exact wpAny_getItem_list_neg l g (by refine ak R ?_;exact B) f (by refine ak R ?_;refine ak α ?_;exact N) (h u s.toks p)
 |j X=>
  refine k.sqv af q fun a V n β T b r l z=> ?_;subst β;refine ay (mK e) fun i C e=> ?_;subst C;obtain⟨t,rfl⟩:=D;refine ay (jG.mp e) fun M m e=>ay (r.get e) fun u A p=> ?_;refine iN (rO m z) fun I f F _=> ?_;exact Ub ⟨_,b,rfl,n,rfl⟩ f F (by refine ak d2 (ak l ?_);exact I) ((pn ..).trans A) (h u s.toks p)
 |e ζ=>
  obtain⟨a,o,rfl,b,_,r⟩:=q;obtain⟨γ,e⟩:=du e;exact F' U k b r γ D e h
 |str x=>
  obtain⟨t,rfl⟩:=q;obtain⟨z,e⟩:=du e;refine ay (mK e) fun i C e=> ?_;subst C;obtain⟨u,rfl⟩:=D;refine ay (jG.mp e) fun M m e=>ay (dg.mp e) fun y δ ε=> ?_;subst ε;refine iN (rO m (jO z)) fun I f F _=>P.getItem_str ?_ ?_ (h _ _ ⟨_,rfl⟩)
  ·rw[DM,decide_eq_false_iff_not,decide_eq_false_iff_not];exact⟨hD.mpr f,oa.mpr F⟩
  ·refine((ak I ?_):(EV i x.cps.size).bind (x.cps[·]?)=ac y);exact δ
theorem Kg (I:bj w c) (k:aU c G L Y s) {S:fN} (q:jw c.w G s.heap v S) (M:a8 G d N) (e:cX d S=ac b) (h:∀t,Q (cC b) {s with toks:=t}):aH (aN aC c.w) c.A (gr c7 N v) Q E s:=by
 have R:∀(f:Bool) {D:List aj} {a:bp} {V:List aV} {n:Nat},v=am a→s.heap.get? a=ac (jV f V n)→dy G D V→(if aj.plain 8 d&&D.all (aj.plain 8) then ac (D.any fun x=>aj.beq x d) else ah)=ac b→aH (aN aC c.w) c.A (gr c7 N v) Q E s:=by
  intro f D a V n W g r e;subst W;obtain⟨p,e⟩:=du e;obtain⟨P,z⟩:=bS.mp p;have C:∀x∈D,aj.plain 8 x=af∧_:=fun x m=>⟨cH.mp z x m,oO k.E 8 x (cH.mp z x m)⟩;obtain⟨A,i⟩:=xK r C;obtain⟨B,T⟩:=oO k.E 8 _ P _ M;have U:=u1 fun x m=>⟨(C x m).1,o8 8 x (C x m).1⟩;have l:=o8 8 d P;have u:c.A.units+1+hF (RU (nh D)) (ik d).depth<cLine:=by
   rw[ev];exact xd I.u (aD (cj (ao (nY ..) l.2) 1) rfl)
  have F:=h s.toks;rw[←bD e,←MD P z] at F;induction f with
  |false=>exact SeqAt.in_list_reads (reads_list_at g rfl rfl i) T U.1 l.1 u F
  |true=>exact SeqAt.in_tuple_reads (reads_tuple_at g rfl rfl i) T U.1 l.1 u F
 induction S with
 |c D=>obtain⟨a,o,i,g,_,V,n,rfl,r,_⟩:=q;exact R ai i g r e
 |j D=>exact k.sqv af q fun a V n i t g r _ _=>R af i g r e
 |e Z=>
  refine ia q fun a o y g n r=> ?_;subst y;obtain⟨X,e⟩:=du e;exact O' I k n g r X M fun t=>bD e▸h t
 |str x=>injection e
theorem FE (n:aH (aN aC c.w) c.A (gr c7 v u) (fun u S=>u=cC b∧Q (cC (!b)) S) E s):aH (aN aC c.w) c.A (gr m' v u) Q E s:=by
 show aH _ _ (do return cC (!(←contains u v))) Q E s;have e:aH (aN aC c.w) c.A (contains u v>>=fun b=>(dm (cC b):h8 aV)) (fun u S=>u=cC b∧Q (cC (!b)) S) E s:=n;intro a p d;have:=e a p d;simp only[Sem.wp_bind',Sem.wp_pure'] at this⊢;exact Sem.wp_mono (aN aC c.w) a _ (fun B P g h=>by cases h.1;exact h.2) (fun _ _ _ f=>f) _ _ this
end
theorem Bl (k n:Nat):(ur k+n).toNat=n-(k+1):=(aS Int.toNat (SY ..)).trans (rr n (k+1))
theorem Oa (k n:Nat):hF (k:Int) n=(hF k n:Nat):=(EB k n).elim (fun h=>(Int.min_eq_left (gq.mpr h)).trans (aS _ (ua h).symm)) fun h=>(Int.min_eq_right (gq.mpr h)).trans (aS _ (x' h).symm)
theorem u4 (k n:Nat):fz (ac (ur k)) n=n-(k+1):=aJ (t:=n-(-(ur k)).toNat) (e:=hF (ur k).toNat n) (DT k)
theorem tD (k n:Nat):fz (ac (k:Int)) n=hF k n:=aL (t:=n-(-(k:Int)).toNat) (e:=hF (k:Int).toNat n) (hD.mpr (gG k))
theorem A' (i:Int) (n:Nat):lG i n=fz (ac i) n:=by
 exact i.casesOn (fun k=>(aJ (gG k)).trans (tD k n).symm) fun k=>(aL (oa.mpr (DT k))).trans ((Bl k n).trans (u4 k n).symm)
theorem yY (i:Int) (n:Nat):(if i<0 then max (i+n) 0 else hF i n:Int)=(fz (ac i) n:Nat):=by
 exact i.casesOn (fun k=>(aL (hD.mpr (gG k))).trans ((Oa k n).trans (aS _ (tD k n).symm))) fun k=>(aJ (DT k)).trans ((Int.ofNat_toNat _).symm.trans (aS _ ((Bl k n).trans (u4 k n).symm)))
theorem wB (v:Option Int) (n:Nat):lY v n≤n:=by
 induction v with
 |none=>exact bv _
 |some i=>induction i using Int.casesOn with
  |ofNat k=>exact ao (a9 (tD k n)) (nY k n)
  |negSucc k=>exact ao (a9 (u4 k n)) (it n (k+1))
theorem nc (l:List a) (lo h:Option Int):dF l lo h=(l.drop (fz lo l.length)).take (lY h l.length-fz lo l.length):=by
 rw[←List.drop_take];unfold dF;cases lo<;>cases h<;>dsimp only<;>(try rw[A'])<;>(try rw[A'])<;>rfl
theorem v0 (l:List a) (lo h:Option Int):(dF l lo h).length≤l.length:=by
 rw[nc,nX,rh];exact ao (nY ..) (it ..)
theorem JK (lo h:Option Int) (n:Nat):QS lo h 1 (n:Int)=(((fz lo n:Nat):Int),((lY h n:Nat):Int)):=by
 refine uu ?_ ?_
 ·exact lo.rec rfl fun x=>yY x n
 ·exact h.rec rfl fun x=>yY x n
theorem Nk (a b:Nat):Dn (a:Int) (b:Int) 1=b-a:=by
 show(if(a:Int)<b then((b:Int)-a-1)/1+1 else 0).toNat=b-a
 by_cases h:a<b
 ·rw[aJ (g5.mpr h),Int.ediv_one,Int.sub_add_cancel];exact rr b a
 ·rw[aL fun n=>h (g5.mp n)];exact(tX (dC h)).symm
theorem Mc (l:List b):a+n≤l.length→((cv n).map (a+·)).filterMap (l[·]?)=(l.drop a).take n:=by
 induction n with
 |zero=>intro _;rfl
 |succ n i=>
  intro h;rw[ya,cd,List.filterMap_append,i (gJ h),RX,RS];simp[cS (show a+n<l.length from h)]
theorem CK (l:List b) (lo i:Option Int):((cv (lY i l.length-fz lo l.length)).map (fz lo l.length+·)).filterMap (l[·]?)=dF l lo i:=by
 rw[nc];have a:=wB i l.length;by_cases h:fz lo l.length≤lY i l.length
 ·exact Mc l (by rw[rb h];exact a)
 ·rw[tX (gJ (f' h))];rfl
theorem vR {lo:Option Int} (h:lY i l.length-fz lo l.length=l.length):dF l lo i=l:=by
 rw[nc,h];have b:=wB i l.length;cases l with
 |nil=>simp
 |cons a r=>
  have d:fz lo (a::r).length=0:=(DX _).resolve_right fun p=>gI _ (ft (jg (a9 h.symm) (Nat.sub_lt (ft (m3 r.length) (ao (a9 h.symm) (it ..))) p)) b);rw[d,List.drop_zero,D4]
section
variable{c:dr} {Y:ar}
theorem Hp {lo:Option Int} {Q:Int×Int×Nat→ct→Prop} (d:s.heap.IsSliceOf sl V u dj) (l:i0 V lo) (e:i0 u i)
  (h:Q (((fz lo n:Nat):Int),1,lY i n-fz lo n) s):aH (aN aC c.w) A (QQ (am sl) (dm (n:Int))) Q E s:=by
 obtain⟨o,a,f,b⟩:=id d;have P:∀{v:aV} {p:Option Int} {R:Option Int→ct→Prop},i0 v p→R p s→aH (aN aC c.w) A (Ts v) R E s:=by
  intro v p R q r;cases q with
  |none=>exact slicePart_none r
  |int=>exact slicePart_int r
 unfold QQ Tt;refine aG (aG (ry a b (x:=V) rfl (aG (ry a b (x:=u) rfl (aG (ry a b (x:=dj) rfl (bo (aG (slicePart_none ?_)))))))));show aH _ _ (if((1:Int)==0)=af then _ else _) _ _ s
 rw[aL (by decide)];refine aG (P l (aG (P e (aG (bo ?_)))));show aH _ _ (match QS lo i 1 (n:Int) with|(lo,i)=>dm (lo,(1:Int),Dn lo i 1)) _ _ s
 rw[JK];show aH _ _ (dm (((fz lo n:Nat):Int),(1:Int),Dn _ _ 1)) _ _ s;rw[Nk];exact bo h
theorem FS {lo:Option Int} (f:s.heap.get? t=ac (lC vs k)) (e:s.heap.IsSliceOf sl v V dj) (p:i0 v lo) (P:i0 V i) (hz:vs.length≤fR)
  (b:dF vs lo i=vs→Q (am t) s) (h:Q (am s.heap.objs.size) {s with heap:=s.heap.push (lC (dF vs lo i) 0)}):aH (aN aC c.w) c.A (m9 (am t) (am sl)) Q E s:=by
 have T:IsTup s.heap t vs.toArray:=⟨_,f,rfl,k,rfl⟩;have a:sizeOk (op (dF vs lo i).toArray):=by
  show(dF vs lo i).toArray.size≤fR;rw[d2];exact ao (v0 _ _ _) hz
 obtain⟨o,g,l,r⟩:=id e;have n:s.TypeIs (am sl) "slice":=⟨o,g,l⟩;unfold m9
 try with_reducible refine eF ?_
 first|refine wpAny_bind (wpAny_pure ?_)|skip
 refine wpAny_bind (wpAny_sequenceKey T.typeIs (by decide) ?_)
 refine wpAny_bind (wpAny_callSpecial?_slot (name:=Str.ofString "__getitem__") T.typeIs slot_tuple_getitem
  (wpAny_call_entry slot_tuple_getitem T.typeIs entry_tuple_getitem ?_ (args_tuple_getitem _ _)))
 show wpAny _ _ (Builtin.Tuple.tupleItemsOf (.ref t)>>=_) _ _ s;refine wpAny_bind (tupleItemsOf_ T (wpAny_bind (wpAny_typeOf n ?_)));rw[if_pos (by decide)];refine wpAny_bind (Hp e p P ?_);rw[List.size_toArray];have q:((List.range (kms_hi i vs.length-kms_lo lo vs.length)).filterMap fun(j:Nat)=>vs.toArray[(((kms_lo lo vs.length:Nat):Int)+(j:Int)*1).toNat]?).toArray=(dF vs lo i).toArray:=by
  rw[←CK,List.filterMap_map];refine congrArg List.toArray (congrArg (List.filterMap · _) (funext fun j=> ?_));rw[show(((kms_lo lo vs.length:Nat):Int)+(j:Int)*1).toNat=kms_lo lo vs.length+j from congrArg (kms_lo lo vs.length+·) (Nat.mul_one j)];exact List.getElem?_toArray ..
 show wpAny _ _ (if(((kms_lo lo vs.length:Nat):Int)==0&&(1:Int)==1&&(kms_hi i vs.length-kms_lo lo vs.length)==vs.length)=true then _ else _) _ _ s
 split
 ·rename_i w;have d:dF vs lo i=vs:=vR (eq_of_beq (Bool.and_eq_true_iff.mp w).2);unfold Builtin.Tuple.tupleIsExact;refine wpAny_bind (wpAny_bind (wpAny_typeOf T.typeIs (wpAny_pure ?_)));rw[if_pos (by decide)]
  first
   |exact wpAny_bind (wpAny_rule (wpAny_pure ⟨_,rfl,wpAny_pure (b d)⟩))
   |exact wpAny_rule (wpAny_bind (wpAny_pure (wpAny_pure ⟨_,rfl,wpAny_pure (b d)⟩)))
   |exact wpAny_bind (wpAny_rule (wpAny_bind (wpAny_pure (wpAny_pure ⟨_,rfl,wpAny_pure (b d)⟩))))
 ·rw[q]
  first
   |exact wpAny_bind (m:=Builtin.Tuple.tupleExact _) (wpAny_newObj_type (wpAny_pure ⟨_,rfl,wpAny_pure h⟩) a)
   |exact wpAny_bind (m:=Builtin.Tuple.tupleExact _) (wpAny_newObj_type (wpAny_bind (wpAny_pure (wpAny_pure ⟨_,rfl,wpAny_pure h⟩))) a)
   |exact wpAny_bind (wpAny_bind (m:=Builtin.Tuple.tupleExact _) (wpAny_newObj_type (wpAny_pure (wpAny_pure ⟨_,rfl,wpAny_pure h⟩)) a))
   |exact wpAny_bind (wpAny_bind (m:=Builtin.Tuple.tupleExact _) (wpAny_newObj_type (wpAny_pure ⟨_,rfl,wpAny_pure h⟩) a))
theorem Kv (x:br) (lo h:Option Int):yv x lo h=⟨(dF x.cps.toList lo h).toArray⟩:=by
 have a:x.length=x.cps.toList.length:=(q' ..).symm;have e:QR lo h 1 x.length=(cv (lY h x.length-fz lo x.length)).map (fz lo x.length+·):=by
  rw[show QR lo h 1 x.length=sliceRange (EO lo h ah x.length).1 (EO lo h ah x.length).2.1 1 by cases lo<;>cases h<;>rfl,kms_bounds,sliceRange_one]
 unfold yv;rw[e];split
 ·rename_i w;simp only[fu,dL,aB,gm] at w;rw[vR (l:=x.cps.toList) (by rw[←a];simpa using w.2)]
 ·refine aS (fun l:List _=>(⟨l.toArray⟩:br)) ?_;rw[←CK,←a];exact aS (Sp · _) (funext fun j=>by simp)
theorem Bg (h:i0 v p):∃l:Option (Int×Tok),v=partValue l∧l.map (·.1)=p:=by
 cases h with
 |none=>exact⟨ah,rfl,rfl⟩
 |int i t=>exact⟨ac (i,t),rfl,rfl⟩
section
variable{lo:Option Int}
theorem yR (r:dy G ds vs):dy G (dF ds lo h) (dF vs lo h):=by rw[nc,nc,r.len];exact(r.drop _).take _
theorem JX (k:aU c G L Y s) (q:jw c.w G s.heap v (.c ds)) (b:s.heap.IsSliceOf sl l u dj) (p:i0 l lo) (P:i0 u i)
  (h:∀{g v S},bT af c G g L Y S→a8 g (.c (dF ds lo i)) v→Q v S):aH (aN aC c.w) c.A (m9 v (am sl)) Q E s:=by
 obtain⟨a,o,e,f,_,V,m,j,r,z⟩:=q;subst e j;refine wpAny_getItem_list_slice (items:=V.toArray) ⟨_,f,rfl,m,rfl⟩ b p P rF nofun ?_ (by rw[d2,r.len];exact z);rw[show slicePick V.toArray lo i ah=(dF V lo i).toArray by rw[kms_pick_eq,nc];rfl];exact(k.made (o:=d5 (dF V lo i) 0) (d:=.c (dF ds lo i)) rfl ⟨_,_,rfl,yR r,ao (v0 ..) z⟩).elim h
theorem Od (k:aU c G L Y s) (q:ha G (.j ds) v) (b:s.heap.IsSliceOf sl V u dj) (p:i0 V lo) (P:i0 u i)
  (h:∀{g v S},bT af c G g L Y S→a8 g (.j (dF ds lo i)) v→Q v S):aH (aN aC c.w) c.A (m9 v (am sl)) Q E s:=
 k.sqv af q fun a f n e t j r l z=>e▸FS j b p P (l▸z) (fun m=>h (.of k) ((show dF ds lo i=ds by
  have:=aS gK m;rw[nc,nX,rh,l] at this;exact vR (e8 (ao (it ..) (wB i ds.length)) (ao (a9 this.symm) (yc ..)))).symm▸⟨_,_,rfl,t⟩)) ((k.made (o:=lC (dF f lo i) 0) (d:=.j (dF ds lo i)) rfl ⟨_,_,rfl,yR r,ao (v0 ..) z⟩).elim h)
theorem FA (k:aU c G L Y s) (hz:x.length≤b4) (b:s.heap.IsSliceOf sl V d dj) (p:i0 V lo) (P:i0 d i)
  (h:∀{g v S},bT af c G g L Y S→a8 g (bP ⟨(dF x.cps.toList lo i).toArray⟩) v→Q v S):aH (aN aC c.w) c.A (m9 (ba x t) (am sl)) Q E s:=
 (Bg p).elim fun l e=>(Bg P).elim fun u a=>by
  have y:(yv x (l.map (·.1)) (u.map (·.1))).length≤fR∧∀T m,Q (ba (yv x (l.map (·.1)) (u.map (·.1))) T) {s with toks:=m}:=⟨ao (Txt.slice_le x _ _) (jO hz),fun T m=>by rw[e.2,a.2,Kv];exact h (.of (k.tok _)) ⟨_,rfl⟩⟩;exact wpAny_getItem_str_slice (l:=l) (u:=u) (st:=ah) (b.imp fun o q=>⟨q.1,q.2.1,by rw[q.2.2,e.1,a.1];rfl⟩) rfl (post_val_or_str y)
theorem JF (k:aU c G L Y s) {S:fN} (q:jw c.w G s.heap v S) (a:s.heap.IsSliceOf sl V u dj) (p:i0 V lo) (P:i0 u i) (e:f7 lo i S=ac d)
  (h:∀{g v b},bT af c G g L Y b→a8 g d v→Q v b):aH (aN aC c.w) c.A (m9 v (am sl)) Q E s:=by
 induction S with
 |c D=>have e:=bD e;subst e;exact JX k q a p P @h
 |j D=>have e:=bD e;subst e;exact Od k q a p P @h
 |e l=>exact nomatch e
 |str x=>
  have e:=du e;have f:=bD e.2;subst f;exact q.elim fun t q=>q▸FA k e.1 a p P @h
end
end
theorem zb:∀(l:List Int),(nI l).Perm l∧(nI l).Pairwise (·≤·):=by
 intro l;induction l with
 |nil=>exact⟨rD _,h7⟩
 |cons a r I=>
  obtain⟨g,j⟩:=I;have s:∀(l:List Int),l.Pairwise (·≤·)→(l9 a l).Perm (a::l)∧(l9 a l).Pairwise (·≤·):=by
   intro l;induction l with
   |nil=>intro _;exact⟨rD _,Rf _ _⟩
   |cons b t I=>
    intro p;obtain⟨P,k⟩:=pr.mp p;show(if a≤b then a::b::t else b::l9 a t).Perm _∧(if a≤b then a::b::t else b::l9 a t).Pairwise _
    by_cases h:a≤b
    ·exact ak (aJ h) (⟨rD _,pr.mpr ⟨fun x d=>(eS.mp d).elim (fun e=>e▸h) fun d=>lQ h (P x d),p⟩⟩)
    ·refine ak (aL h) ?_;obtain⟨i,f⟩:=I k;exact⟨(i.cons b).trans (.swap _ _ _),pr.mpr ⟨fun x d=>(eS.mp (i.mem_iff.mp d)).elim (fun e=>e▸ui (oa.mp h)) (P x),f⟩⟩
  obtain⟨i,f⟩:=s _ j;exact⟨i.trans (g.cons a),f⟩
theorem Pc (h:IntsAre vs ns):dy G (ns.map ae) vs:=by
 induction h with
 |nil=>exact cI
 |cons n t _ r=>exact cy ⟨_,rfl⟩ r
theorem NJ:∀{l:List aj} {I:List Int},sX l=ac I→l=I.map ae:=by
 intro l;induction l with
 |nil=>
  intro I e;injection e with e;subst e;rfl
 |cons d r h=>
  intro I e;induction d using aj.casesOn with
  |int i=>refine ay (dg.mp (e)) fun j a y=> ?_;subst y;refine ak (h a) ?_;rfl
  |_=>injection e
theorem PR (h:mL G k A):k.map (·.1)=(A.map (·.1)).map ae:=by
 induction h with
 |nil=>rfl
 |cons a _ i=>rw[eE,eE,eE,i,a.1]
theorem Nx {b:List Int} (h:a.map ae=b.map ae):a=b:=(DV fun _ _ e=>aj.int.inj e).mp h
theorem CX {v:aV} (e:v.isInt i=af):∃t,v=aq i t:=by
 induction v with
 |int j t=>exact⟨t,aS (aq · t) (dB e)⟩
 |_=>exact aR e cp
section
variable{c:dr} {Y:ar}
theorem aU.mk2 (k:aU c G L Y s) {tk:Nat} (q:∀b p,s.heap.get? b=ac p→h'.get? b=ac p) (e:s.heap.get? a=ah) (f:h'.get? a=ac o) (r:cQ c.w G o d):bT af c G (dt G a (.d d o)) L Y {s with heap:=h',toks:=tk}∧ha (dt G a (.d d o)) d (am a):=by
 have n:=k.free e;exact⟨⟨jP n,fun b l x h=>(gc h).elim (fun h=>nomatch h.2) fun h=>h.2,(k.kp (h':=h') fun b p _=>q b p).tag n f ⟨rfl,r⟩ fun _ h=>h.elim⟩,_,_,rfl,hX⟩
theorem xs {h h':fT} (q:∀b p,h.get? b=ac p→h'.get? b=ac p):h.get? h'.objs.size=none:=by
 induction e:h.get? h'.objs.size with
 |none=>rfl
 |some o=>exact aR (ki (q _ _ e)) (gI _)
theorem z' (k:aU c G L Y s) (d:s.heap.get? a=ac o) (r:cQ c.w G o (.e b)) (h:∀p∈b,jX p.1=af):∃A,mL G b A∧s.heap.DictOf (md c.w) a A:=by
 have key:∀{g:Prop},(∀A,mL G b A→s.heap.DictOf (md c.w) a A→g)→g:=fun g=>by
  induction b using cn with
  |nil=>exact nE (key:=ae 0) (vk:=aq 0 0) k d r rfl ⟨_,rfl⟩ (fun i t A _ _ x y=>g A x y) fun x _ _ e=>aR x.2.2 (by rw[←e];exact cp)
  |cons p t=>
   exact nE (key:=ae 0) (vk:=aq 0 0) k d r (by show(af&&(jX p.1&&af||i7 p.1&&ai))=af;refine ak (h p (cU _)) ?_;rfl) ⟨_,rfl⟩ (fun i t A _ _ x y=>g A x y) fun x _ _ e=>aR x.2.2 (by rw[←e];exact cp)
 exact key fun A x y=>bd A x y
theorem r0 (k:aU c G L Y s) (b:s.heap.get? a=ac o) (r:cQ c.w G o (.e j)):s.TypeIs (am a) "dict"∧o.dict=ah∧∃e E,o.data=k9 e E∧e.size=j.length:=by
 rcases r.2 with⟨A,q,d⟩|⟨A,q,d⟩
 ·refine lI (d _ _ b) fun p e E h f g _ i _=> ?_;rw[b] at h;injection h with h;subst h;exact⟨⟨o,b,f.1⟩,f.2.1,e,E,g,by rw[←q',i.length,q.len]⟩
 ·refine wQ (d _ _ b (ta k.E q)) fun p e E h f g i _=> ?_;rw[b] at h;injection h with h;subst h;exact⟨⟨o,b,f.1⟩,f.2.1,e,E,g,by rw[←q',i,aB,q.len]⟩
theorem LX (b:(a==yy)=ai):
  MeetsIn aC c.w (Builtin.«dict.__len__» ⟨[am a],[]⟩) (fun _ R s=>(∃o e E,s.heap.get? a=ac o∧o.data=k9 e E∧e.size=n)∧R (jJ (.ret (aq n s.toks))) {s with toks:=s.toks+1}):=
 .of_wp fun A R s z=>z.elim fun Z h=>j9 Z fun o e E f d g=>by
  refine((aG (aG (t8 f d (bo ?_)))):aH _ _ (dictSize a>>=_) _ _ s);refine aG (wpAny_pendingCount_other b (SZ ?_));rw[EC,g];exact h
theorem OY (k:aU c G L Y s) (S:jw c.w G s.heap v q) (hz:rL q≤16777216) (h:∀t t',Q (aq (rL q) t) {s with toks:=t'}):aH (aN aC c.w) c.A (gN (bJ "len") [v]) Q E s:=by
 induction q with
 |c d=>
  obtain⟨a,o,rfl,b,_,V,n,rfl,r,z⟩:=S;have l:=(d2 ..).trans r.len;exact Calls.call_len_list ⟨_,b,rfl,n,rfl⟩ (by refine ak l ?_;exact oP (jj▸z)) (by refine ak l ?_;exact h _ _)
 |j d=>
  refine k.sqv af S fun a V n f t b r l z=> ?_;subst f;have l:=(d2 ..).trans l;exact P.len_tuple b (by refine ak l ?_;exact qj (jj▸z)) (by refine ak l ?_;exact h _ _)
 |e g=>
  obtain⟨a,o,rfl,b,n,r⟩:=S;obtain⟨T,_,i,p,m,u⟩:=r0 k b r;have hz:g.length≤16777216:=hz;refine Rv kind_len plain_len entry_len (args_len1 _) (aG (bo ?_));refine aG (xV T SI (ru SI T F.entry_dict_len (F.args_dict_len_1 _) (LX (k.nmod n)) ⟨(mx o i p b m u),(aG (eF (bo ?_)))⟩));refine aG (EN (ak (aL (hD.mpr (gG _))) ?_));exact ak (aL (qj hz)) (aG (wpAny_mkInt (bo (bd _ rfl (h _ _)))))
 |str x=>
  obtain⟨t,rfl⟩:=S;have w:x.cps.size≤16777216:=hz;exact P.len_str (qj hz) (h _ _)
theorem HJ (l:List aV):∀(X:List (Int×aV)),l.length=X.length→(∀(j:Nat) (v:aV),l[j]? =ac v→∃(k:Int) (x:aV),X[j]? =ac (k,x)∧v.isInt k=af)→IntsAre l (X.map (·.1)):=by
 induction l with
 |nil=>intro X h _;induction X using cn with
  |nil=>exact .nil
  |cons _ _=>injection h
 |cons v l I=>intro X h q;induction X using cn with
  |nil=>injection h
  |cons p X=>
   refine bK (q 0 v rfl) fun i x a b=> ?_;injection a with a;subst a;obtain⟨t,rfl⟩:=CX b;exact .cons i t (I X (ue h) fun j u d=>q (j+1) u d)
theorem Mp (T:bj w c) (k:aU c G L Y s) {v:aV} {f:List (aj×aj)} (U:jw c.w G s.heap v (.e f)) (e:(uI f).e=ac d) (h:∀{g v S},bT af c G g L Y S→a8 g d v→Q v S):aH (aN aC c.w) c.A (gN (bJ "sorted") [v]) Q E s:=by
 refine ia U fun a o y V n r=> ?_;subst y;obtain⟨z,e⟩:=du e;refine ay (dg.mp e) fun I W y=> ?_;subst y;have B:=NJ W;obtain⟨X,q,m⟩:=z' k V r fun p Z=>by
  have:p.1∈f.map (·.1):=cr.mpr (bd p Z rfl);rw[B] at this;refine ay (cr.mp this) fun i _ α=> ?_;rw[←α];rfl
 have C:=Nx ((PR q).symm.trans B);obtain⟨μ,β⟩:=m.dictAt;refine Rv kind_sorted plain_sorted entry_sorted (args_sorted1 _) (aG (bo ?_));refine aG (kdu_collect (kdl_dict (k.nmod n)) T.b β (by rw[q.len];exact r.1) fun h' tk A u D=> ?_);have l:=(q' ..).trans D.1;have γ:=C▸HJ _ _ l fun j v δ=>D.2 j v (by rw[←Rp];exact δ);have F:X.length≤sizeLine:=by rw[q.len];exact r.1
 refine aG (EF ?_ (by rw[l];exact F));have x:(h'.push {cls:=bn "list",data:=op A.toList.toArray}).get? h'.objs.size=ac (seqObj "list" A.toList.toArray 0):=g4 _ rfl;refine aG (eF (pA slot_list_sort (bd _ x rfl) Uc (list_sort_tree x γ (by rw[l,q.len];exact z) fun ε N ζ M η=>bd _ rfl (?_)) (args_list_sort _)));refine bo (bd _ rfl (?_));obtain⟨ν,θ⟩:=sortedHeap_at x;have P:=Q1 (fun a b _ _ ι κ=>Int.le_antisymm ι κ) η (zb I).2 (M.trans (zb I).1.symm);have m:=k.mk2 (h':=sortedHeap (h'.push {cls:=bn "list",data:=op A.toList.toArray}) h'.objs.size A.toList ε) (tk:=tk) (d:=.c ((nI I).map ae)) (fun b ξ R=>by
  have t:=ki (u _ _ R);rw[sortedHeap_old (hZ t) (by rw[yd];exact px t)];exact iq _ (u _ _ R)) (xs u) (by rw[θ];rfl) (er _ _ rfl (P▸Pc ζ) (by rw[aB,←P,M.length_eq,←C,aB];exact F))
 exact h m.1 m.2
end
noncomputable def wc (ds:List aj) (i:Nat):Bool:=match ds[i]?with
 |some (.bool b)=>b
 |_=>ai
theorem Ix:∀{ds:List aj} {b:Bool},nw ds=ac b→(cv ds.length).all (wc ds)=b:=by
 intro ds;induction ds with
 |nil=>
  intro b h;cases h;rfl
 |cons d ds i=>
  intro b h;cases d with
  |bool x=>
   obtain⟨B,r,rfl⟩:=dg.mp (show(nw ds).map (fun y=>x&&y)=ac b from h);rw[mY,List.range_succ_eq_map,m0,pD,←i r];rfl
  |_=>cases h
theorem LW (r:dy G ds vs):∀{b:Bool} {i:Nat},nw ds=ac b→∀v,vs[i]? =ac v→v=cC (wc ds i):=by
 induction r with
 |nil=>intro b i _ v h;cases h
 | @cons d u _ _ a _ I=>
  intro b i h v e;cases d with
  |bool x=>
   obtain⟨B,f,_⟩:=dg.mp (show yo (fun y=>x&&y) _=ac b from h);cases i with
   |zero=>cases e;exact a
   |succ i=>exact I f v e
  |_=>cases h
section
variable{c:dr} {Y:ar} {s:ct}
theorem Kj (n:bj w c) (k:aU c G L Y s) (d:ha G (.c ds) v) (e:nw ds=ac b) (h:∀{S},aU c G L Y S→Q (cC b) S):aH (aN aC c.w) c.A (gN (bJ "all") [v]) Q E s:=by
 refine k.sqv ai d fun a V m p t f r l z=> ?_;subst p;have g:s.heap.IsList a V.toArray:=⟨_,f,rfl,m,rfl⟩;have q:a≠s.heap.objs.size:=hZ (ki f);refine call_all_walk (Ea g (⟨_,[_,a],[_],_,_,_,wc ds,rfl,Walks.list (A:=c.A.in1) n.b _ a q V.toArray,⟨⟨_,g4 _ rfl,rfl,rfl⟩,g.push _⟩, ?_,fun B T u=> ?_⟩))
 ·intro i v s Q E P x;rw[LW r e v ((pn ..).symm.trans P)];exact rg x
 ·rw[d2,l,Ix e];exact h (k.kp fun b o _ j=>u b o (fun y=>aR (bW.mp y▸ki j) (gI _)) (iq _ j))
theorem GP (k:aU c G L Y s) (q:jw c.w G s.heap v (.c ds)) (h:∀{g v S},bT af c G g L Y S→a8 g (.j ds) v→Q v S):aH (aN aC c.w) c.A (gN (bn "tuple") [v]) Q E s:=by
 obtain⟨a,o,rfl,f,_,V,n,rfl,r,z⟩:=q;refine call_tuple_list (items:=V.toArray) ⟨_,f,rfl,n,rfl⟩ (fun h' e=> ?_) (by rw[d2,r.len];exact z);have m:=k.mk2 (h':=h'.push (lC V 0)) (tk:=s.toks) (a:=h'.objs.size) (o:=lC V 0) (d:=.j ds) (fun b j i=>iq _ (e _ _ i)) (xs e) (g4 _ rfl) ⟨_,_,rfl,r,z⟩;exact h m.1 m.2
theorem F7 (m:bj w c) (k:aU c G L Y s) (e:(vW.c a b).e=ac d) (n:a8 G a V) (f:a8 G b p) (h:∀{v S},aU c G L Y S→a8 G d v→Q v S):aH (aN aC c.w) c.A (gN (bJ "max") [V,p]) Q E s:=by
 obtain⟨i,j,rfl,rfl,e⟩:=sO e;obtain⟨t,rfl⟩:=n;obtain⟨u,rfl⟩:=f;cases e;refine max_two_ints m.b fun h' tk q=> ?_;have g:=k.kp (h':=h') (tk:=tk) fun b o _ f=>q b o f;by_cases l:i<j
 ·rw[aJ l] at h⊢;exact h g ⟨_,rfl⟩
 ·rw[aL l] at h⊢;exact h g ⟨_,rfl⟩
theorem M9 (k:aU c G L Y s) (e:(rG a).e=ac d) (b:a8 G a v) (h:∀{v S},aU c G L Y S→a8 G d v→Q v S):aH (aN aC c.w) c.A (gN (bn "str") [v]) Q E s:=by
 obtain⟨i,rfl,e⟩:=mK e;obtain⟨⟨f,g⟩,e⟩:=du e;obtain⟨t,rfl⟩:=b;cases e;refine PySem.P.str_of_int ?_ (h (k.tok _) ⟨_,rfl⟩);have:i.natAbs<2^1920:=rt (B6 f g:i.natAbs<1000) (by decide+kernel);by_cases z:i.natAbs=0
 ·rw[z];decide
 ·exact(Nat.log2_lt z).mpr this
theorem Lg (k:aU c G L Y s) (e:(vW.int a).e=ac d) (b:a8 G a v) (h:∀{v S},aU c G L Y S→a8 G d v→Q v S):aH (aN aC c.w) c.A (gN (bn "int") [v]) Q E s:=by
 cases a with
 |str x=>
  obtain⟨t,rfl⟩:=b;obtain⟨z,e⟩:=du e;obtain⟨i,f,rfl⟩:=dg.mp e;exact KIN.call_text f z (h (k.tok _) ⟨_,rfl⟩)
 |_=>cases e
theorem s3 {h:fT} (o:h.get? a=ac (d5 vs m)) (b:f vs.toArray=us.toArray):∃M,(h.update a (uo f)).get? a=ac (d5 us M):=by
 have:=IsL.update (h:=h) (l:=a) (items:=vs.toArray) (n:=m) o f;rw[b] at this;exact⟨_,this⟩
theorem mv {G:Prop} (h:(a,b)=(A,b')) (q:a=A→b=b'→G):G:=q (aS yB h) (aS yA h)
theorem sw {G:Prop} (h:ac (a,b)=ac (A,b')) (q:a=A→b=b'→G):G:=mv (bD h) q
noncomputable def v8 (m:Nat):String:=cond (d3 m 2) "list.pop" (cond (d3 m 3) "list.append" (cond (d3 m 4) "list.extend" "list.reverse"))
inductive OT:Nat→b0→List aj→aj→b0→Prop where
 |a {X:List aj} {x:aj} (h:X.getLast?=some x):OT 2 (.c X) [] x (.c X.dropLast)
 |c {X:List aj}:OT 6 (.c X) [] .none (.c X.reverse)
 |app {X:List aj} {x:aj} (h:X.length≤b4):OT 3 (.c X) [x] .none (.c (X++[x]))
 |b {X y:List aj} (f:Bool) (h:X.length+y.length≤b4):OT 4 (.c X) [kP f y] .none (.c (X++y))
theorem sZ (e:cond (d3 m k) x y=ac z):(m=k∧x=ac z)∨y=ac z:=by
 cases h:d3 m k with
 |true=>rw[h] at e;exact av ⟨jd h,e⟩
 |false=>rw[h] at e;exact aI e
theorem AK (e:(if x.length+y.length≤b4 then ac (a4,b0.c (x++y)) else ah)=ac (d,p')):OT 4 (.c x) [kP f y] d p':=by
 have q:=du e;exact sw q.2 fun E a=>E▸a▸ .b f q.1
theorem Ps (e:fJ m p ds=ac (d,p')):OT m p ds d p':=by
 induction p with
 |e _=>exact nomatch e
 |c X=>
  rcases ds with _|⟨x,_|_⟩
  ·refine(sZ e).elim (fun h=> ?_) fun h=>(sZ h).elim (fun h=>sw h.2 fun E a=>h.1▸E▸a▸ .c) fun h=>(nomatch h);have e:=h.2;rw[h.1];cases l:X.getLast? with
   |none=>rw[l] at e;exact nomatch e
   |some x=>rw[l] at e;exact sw e fun E a=>E▸a▸ .a l
  ·refine(sZ e).elim (fun h=> ?_) fun h=>(sZ h).elim (fun h=> ?_) fun h=>(nomatch h)
   ·have q:=du h.2;exact sw q.2 fun E a=>h.1▸E▸a▸ .app q.1
   rw[h.1];have e:=h.2;induction x using aj.casesOn with
   |c y=>exact AK (f:=ai) e
   |j y=>exact AK (f:=af) e
   |_=>exact nomatch e
  ·exact nomatch e
theorem p1 {tk:Nat} {Q:aV→ct→Prop} (b:s.heap.get? a=ac (d5 us n)) (e:f us.toArray=ws.toArray) (r:dy G y ws) (hz:y.length≤fR) (D:a8 G d v)
  (h:∀v h' tk o,a8 G d v→hC a s.heap h'→h'.get? a=ac o→cQ c.w G o (.c y)→Q v {s with heap:=h',toks:=tk}):Q v {s with heap:=s.heap.update a (uo f),toks:=tk}:=
 (s3 b e).elim fun k g=>h v _ tk _ D (nT ..) g ⟨_,k,rfl,r,hz⟩
theorem BL (h:dQ R [] b):b=[]:=fs.mp h.len
theorem zY (h:dQ R [a] B):∃b,B=[b]∧R a b:=by
 have l:=h.len;rcases B with _|⟨b,_|_⟩
 ·exact nomatch l
 ·exact⟨b,rfl,(h.get (k:=0) rfl).elim fun c h=>bD h.1▸h.2⟩
 ·exact nomatch l
theorem J0 {y:List aj} {ws:List aV} (r:dy G x us) (h:ws.length=y.length) (hz:x.length+y.length≤b4):us.toArray.size+ws.toArray.size≤sizeLine:=by rw[d2,d2,r.len,h];exact jO hz
theorem B7 (h:n≤fR):¬(b&&QU n)=true:=fun e=>by
 have e:=dB (bS.mp e).2;rw[jj] at h;exact aR (aD h rfl) (jh e)
theorem By (k:aU c G L Y s) {Q:aV→ct→Prop} (e:fJ m p ds=ac (d,p')) (g:s.heap.get? a=ac o) (r:cQ c.w G o p.frz) (D:dy G ds vs)
  (h:∀v h' tk x,a8 G d v→hC a s.heap h'→h'.get? a=ac x→cQ c.w G x p'.frz→Q v {s with heap:=h',toks:=tk}):aH (aN aC c.w) c.A (gN (bJ (v8 m)) (am a::vs)) Q E s:=by
 have e:=Ps e;induction e using OT.casesOn with
 |a l=>
  have e:=BL D;subst e;refine cE r ?_;clear r;intro U n e r z;subst e;exact(r.get (List.getLast?_eq_getElem?.symm.trans l)).elim fun u y=>ob Ra ⟨_,g,rfl⟩ PySem.F.entry_list_pop (PySem.F.args_list_pop_1 _) (MeetsSeq.list_pop_last a U.toArray n u (by rw[d2,r.len];exact(pn ..).trans y.1) (by rw[d2,r.len];exact z)) ⟨g,p1 (ws:=U.dropLast) g (by rw[QV,d2,List.eraseIdx_length_sub_one]) (by rw[Rt,Rt,r.len];exact r.take _) (by rw[List.length_dropLast];exact ao (it ..) z) y.2 h⟩
 |c=>
  have e:=BL D;subst e;refine cE r ?_;clear r;intro U n e r z;subst e;exact ob Q2 ⟨_,g,rfl⟩ PySem.F.entry_list_reverse (PySem.F.args_list_reverse_1 _) (AutoSeq1.list_reverse_list_0 a U.toArray n (by rw[d2,r.len];exact z)) ⟨g,p1 (v:=dj) (d:=a4) (ws:=U.reverse) g (List.reverse_toArray ..) r.c (by rw[DP];exact z) rfl h⟩
 |app j=>
  refine(zY D).elim fun v q=> ?_;have e:=q.1;subst e;refine cE r ?_;clear r;intro U n e r z;subst e;exact ob Dp ⟨_,g,rfl⟩ Q5 (QZ _ _) (RO a U.toArray n _ (by rw[d2,r.len];exact z)) ⟨g,p1 (v:=dj) (d:=a4) g (RY ..) (dQ.app (cy q.2 cI) r) (by rw[bi];exact ao (b3 j) (by rw[jj];decide)) rfl h⟩
 |b f j=>
  refine(zY D).elim fun v q=> ?_;have e:=q.1;subst e;refine cE r ?_;clear r;intro U n e r z;subst e;refine k.sqv f (show ha G (kP f _) v by induction f<;>exact q.2) fun B ws i C t A R F Z=> ?_;subst C;have w:=J0 r F j;induction f with
  |false=>exact ob Do ⟨_,g,rfl⟩ Q4 (QY _ _) (AutoSeq1.list_extend_list_list_0 a U.toArray n _ _ _ (B7 w) (by rw[d2,r.len];exact z) (rf w)) ⟨g,A,p1 (v:=dj) (d:=a4) (ws:=U++ws) g (xZ ..) (R.app r) (by rw[bi];exact jO j) rfl h⟩
  |true=>exact ob Do ⟨_,g,rfl⟩ Q4 (QY _ _) (AutoSeq1.list_extend_list_tuple_0 a U.toArray n _ _ _ (B7 w) (by rw[d2,r.len];exact z) (rf w)) ⟨g,A,p1 (v:=dj) (d:=a4) (ws:=U++ws) g (xZ ..) (R.app r) (by rw[bi];exact jO j) rfl h⟩
end
noncomputable def mN:List (Nat×aV):=[(10,bJ "len"),(11,bn "range"),(12,bJ "sorted"),(13,bJ "max"),(14,bJ "all"),(15,bn "str"),(16,bn "int"),(17,bn "tuple"),(18,bn "dict")]
structure en (w:bZ) (mg mb:br→Option aV):Prop where
 ns:(cO w.params).Ns n_ mg
 a:(cO w.params).Ns rz mb
 blt:∀x v,(x,v)∈mN→mg (ed x)=ah∧mb (ed x)=ac v
 funs:∀g,(j8.any fun p=>p.2==g)=af→100≤g→mg (ed g)=ac (am (l2 g))
 consts:∀x d,lD.lookup x=ac d→∃v,mg x=ac v∧a8 (d6 w) d v
theorem Mt:(lD.all fun p=> !(p.1==("__debug__":br)))=true:=by kernel_rfl
section
variable{r:gv} {Y:ar}
theorem Af (h:mV s y=af):s.names.lookup y=ac pC:=dB h
theorem aU.ns (k:aU c G L Y s) (h:(cO c.w.params).Ns a m):s.heap.Ns a m:=h.elim fun o h=>h.elim fun e h=>h.elim fun p h=>iO o e p ((k.head h.1).1) h.2
theorem Da (B:en c.w mg mb) (o:bj w c) (k:aU c G L Y s) (h:mV c.sc x=af) (d:(x==("__debug__":br))=ai) (a:mg x=ac v) (q:Q v s):aH (aN aC c.w) c.A (bO (ey x pos) c.env) Q E s:=
 Se o.l (o.glob x (Af h)) (loadGlobal_global (by refine ak o.v ?_;exact k.ns B.ns) a q) d
theorem QA (B:en c.w mg mb) (o:bj W c) (h:we c.sc d e=af):dq X Z c af G a8 (fun L Y k=>k d L Y) (bO (gU d e) c.env):=by
 intro L Y s t Q E k w q;unfold we at h;unfold gU;induction n:(fK e).c with
 |some p=>
  have h:=n▸h;obtain⟨f,a⟩:=bS.mp h;have a:∃D,lD.lookup p.1=ac D∧aj.beq D d=true:=by
   induction l:lD.lookup p.1 with
   |none=>have a:=l▸a;exact aR a cp
   |some D=>rw[l] at a;exact bd D rfl a
  refine ay a fun D l g=> ?_;cases xp _ _ g;refine ay (B.consts _ _ l) fun v j m=> ?_;exact Da B o k f (Bool.not_eq_true _▸fun z=>aR (cH.mp Mt _ (hL l)) (by refine ak z ?_;exact cp)) j (q (.of k) (m.mono k.base.ld) w)
 |none=>
  rw[n] at h;induction d using aj.casesOn with
  |none=>exact bo (q (d:=a4) (.of k) rfl w)
  |bool b=>exact bo (q (d:=aA b) (.of k) rfl w)
  |int i=>
   cases(fK e).un with
   |false=>exact wpAny_mkInt (q (d:=ae i) (.of (k.tok _)) ⟨_,rfl⟩ w)
   |true=>
    refine wpAny_UnaryOp (wpAny_Constant_int (T_ (q (d:=ae i) (.of ((k.tok _).tok _)) ⟨_,aS (aq · _) (Int.neg_neg i)⟩ w)))
  |str x=>exact wpAny_mkText (q (d:=bP x) (.of (k.tok _)) ⟨_,rfl⟩ w)
  |_=>exact aR h cp
theorem aU.own (k:aU c G L Y s) (e:bG x L=ac (bE p)) {P:Prop} (q:∀a g,iE G s.heap x (am a) (c.pl x)→bT af c G g (fZ x (.l p.frz) L) Y s→a8 g p.frz (am a)→P):P:=by
 refine ay (k.peek (l:=ai) e) fun a b t=> ?_;obtain⟨o,d,z,h,R⟩:=k.ok _ _ t;rw[e] at h;cases h;exact iN (k.frz t e d R) fun f i j m=>q a _ b ⟨f,i,m⟩ (by induction p<;>exact j)
theorem E4 (o:bj W c) {x:Nat} (h:oy c.sc x=af):dq X Z c af G a8 (qM T i r (.f x)) (bO (ey (b_ x) pos) c.env):=by
 intro L Y s b Q E k w q;have w:aQ X Z (match bG x L with
  |some (.l d)=>b d L Y
  |some (.own c)=>b c.frz (fZ x (.l c.frz) L) Y
  |_=>.a):=w
 induction e:bG x L with
 |none=>have w:=e▸w;exact w.elim
 |some S=>
  rw[e] at w;induction S with
  |l d=>exact(k.fr x _ e).elim fun v p=>pX o h p.1 (q (.of k) p.2 w)
  |own p=>exact k.own e fun A g P f D=>pX o h P (q f D w)
  |a p=>exact w.elim
theorem N0 (i:dq X Z c a.simple G a8 (r.e a) (bO ea c.env)) (I:∀{G},dq X Z c b.simple G a8 (r.e b) (bO f c.env)):
  dq X Z c (a.simple&&b.simple) G a8 (fun L Y k=>r.e a L Y fun D L Y=>r.e b L Y fun g L Y=>e_ (.w o D g) fun d=>k d L Y) (bO (.BinOp ea o f pos) c.env):=by
 intro L Y s n Q E k w q;refine wpAny_BinOp (i k w fun P h w=>I P.k w fun p j w=>(ay w ?_));clear w;intro d e w;exact FU p.k (h.mono p.l.ld) j (fun l m=>q (by have:=(P.tr p).tr l;rwa[n9] at this) m w) e
theorem Oi (i:dq X Z c a.simple G a8 (r.e a) (bO ea c.env)):dq X Z c ai G a8 (fun L Y k=>r.e a L Y fun d L Y=>aT.b (hG d) fun b=>k (aA !b) L Y) (bO (yE .Not ea pos) c.env):=by
 intro L Y s f Q E k w q;refine wpAny_UnaryOp (i k w fun p D w=>(ay w ?_));clear w;intro b e w;exact not_value (sP p.k e D fun t=>q (d:=aA !b) ⟨p.l.low,p.h,p.k.tok t⟩ rfl w)
theorem J_ (i:dq X Z c x.simple G (fun _ a b=>a=b) (r.t x) (lX f c.env (bO f c.env))) (I:∀{G},dq X Z c a.simple G a8 (r.e a) (bO ea c.env)) (g:∀{G},dq X Z c b.simple G a8 (r.e b) (bO h c.env)):
  dq X Z c ai G a8 (fun L Y k=>r.t x L Y fun v L Y=>if v then r.e a L Y k else r.e b L Y k) (bO (.IfExp f ea h pos) c.env):=by
 intro L Y s j Q E k w q;refine wpAny_IfExp (i k w fun p e w=> ?_);subst e;rename_i v _ _ _ _;induction v with
 |true=>exact I p.k w fun P d w=>q (p.low.tr P.low) d w
 |false=>exact g p.k w fun P d w=>q (p.low.tr P.low) d w
theorem th (R:b2 W X Z r) (o:bj W c):∀{l:List c6} {G:bN},eQ c.sc e l=af→dq X Z c (lx e) G (fun G ds vs=>dy G ds vs∧ds.length=e.length) (g2 r e) (lW (gL pos (gt (dJ e l) c.env))):=by
 induction e with
 |nil=>exact fun _=>fun k w q=>pG (q (.of k) ⟨cI,rfl⟩ w)
 |cons m e i=>
  intro l G h;refine fun k w q=>(?_:aH _ _ (lW (gL pos (gt (bz m (l.headD fy)::dJ e l.tail) c.env))) _ _ _);rw[(hO (bS.mp h).1).a];exact m5 (R o (bS.mp h).1 k w fun p D w=>i (bS.mp h).2 p.k w fun P d w=>q (p.tr P) ⟨cy (D.mono P.l.ld) d.1,aS (·+1) d.2⟩ w)
end
section
variable{c:dr}
theorem Lt:∀{e:List bt} {l:List c6},(dJ e l).length=e.length:=by
 intro e;induction e with
 |nil=>
  intro _;exact rfl
 |cons _ e i=>
  intro l;exact aS (·+1) (i)
theorem qA (h:n≤1000):n≤sizeLine:=jO (aD h rfl)
theorem I9 (R:b2 W X Z r) (a:bj W c) (h:eQ c.sc e l=af):dq X Z c (lx e) G a8 (fun L Y k=>if e.length≤1000 then g2 r e L Y fun ds L Y=>k (.j ds) L Y else .a) (bO (ol (dJ e l) n pos) c.env):=fun{L Y s b Q E} k w q=>by
 have w:aQ X Z (if e.length≤1000 then _ else .a):=w
 split at w
 ·rename_i z;rw[arm_eval_Tuple];refine aG (fw (aG (th R a h k w fun p d w=> ?_)));rename_i ds _ _ _ v _;have m:=p.k.made (o:=lC v 0) (d:=.j ds) rfl (er _ _ rfl d.1 (qA (d.2▸z)));exact wpAny_newTuple (q (d:=.j ds) (by have:=p.tr m.1;rwa[n9] at this) m.2 w) (by rw[d.1.len];exact qA (d.2▸z))
 ·exact w.elim
theorem FT (R:b2 W X Z r) (a:bj W c) (h:eQ c.sc e l=af):dq X Z c ai G a8 (fun L Y k=>if e.length≤1000 then g2 r e L Y fun ds L Y=>k (.c ds) L Y else .a) (bO (pR (dJ e l) pos) c.env):=fun{L Y s b Q E} k w q=>by
 have w:aQ X Z (if e.length≤1000 then _ else .a):=w
 split at w
 ·rename_i z;rw[arm_eval_List];refine aG (fw (aG (th R a h k w fun p d w=> ?_)));rename_i ds _ _ _ v _;have m:=p.k.made (o:=d5 v 0) (d:=.c ds) rfl (er _ _ rfl d.1 (qA (d.2▸z)));exact EF (q (d:=.c ds) (p.low.tr m.1.low) m.2 w) (by rw[d.1.len];exact qA (d.2▸z))
 ·exact w.elim
theorem Cv (c:dr) (G:bN):cQ c.w G {cls:=bn "dict",data:=k9 #[]} (.e []):=⟨cA _,av (bd ([]) cI (fun h a e=>sB _ (#[]) 0 e (⟨rfl,rfl,rfl⟩) rfl (fun _ h=>aR h (DN _)) .nil ye))⟩
theorem FX:dq X Z c ai G a8 (fun L Y k=>k (.e []) L Y) (bO (uH [] [] pos) c.env):=fun{L Y s a Q E} k w q=>by
 have m:=k.made rfl (Cv c G);exact SP (q (d:=.e []) m.1.low m.2 w)
theorem CD (b:p3 m=af) (h:cb s m e=af):yl (bz m e) a f w=w:=by
 induction m using bt.casesOn with
 |v=>exact aR h cp
 |h d=>
  refine(?_:yl (gU d e) a f w=w);unfold gU;cases(fK e).c with
  |some q=>rfl
  |none=>induction d using aj.casesOn<;>first|rfl|(cases(fK e).un<;>rfl)
 |call g E=>induction E using cn with
  |nil=>exact aR b cp
  |cons a E=>rfl
 |_=>rfl
theorem Qq (b:∀w,yl v a c.env w=w)
  (h:aH (aN aC c.w) c.A (bO v c.env) (fun o S=>aH (aN aC c.w) c.A (getAttr o a af) Q E S) E s):aH (aN aC c.w) c.A (bO (iu v a pos) c.env) Q E s:=by
 rw[arm_eval_Attribute,b];exact aG (d9 h (fun o S d=>aG (fw (aG (eF (d9 d (fun r f e=>aG (DW (bo e))) fun _ _ x=>x))))) fun _ _ x=>x)
theorem z2 (R:b2 W X Z r) (o:bj W c) (f:p3 a=af) (h:cb c.sc a ea=af):dq X Z c a.simple G (fun G t v=>mF G t.1 x (ac v) (ac (mi t.2)))
  (qu r a x) (bO (iu (bz a ea) (cW x) pos) c.env):=fun{L Y s g Q E} k w q=>by
 refine Qq (fun _=>CD f h) (R o h k w fun p d w=> ?_);rename_i D _ S _ _ _;induction D using aj.casesOn with
 |inst j=>
  refine ay d fun b y t=> ?_;subst y;have w:aQ X Z (match ib j x S with
    |some A=>g (j,A) _ _
    |none=>.a):=w
  induction e:ib j x S with
  |none=>have w:=e▸w;exact w.elim
  |some A=>have w:=e▸w;exact AG p.k t e fun u T h=>q ⟨p.l,p.h,p.k.tok T⟩ h w
 |_=>exact w.elim
end
section
variable{c:dr} {Y:ar}
theorem lb (R:b2 W X Z r) (o:bj W c) (h:cb c.sc a ea=af):dq X Z c a.simple G ly (f2 r a) (bO (bz a ea) c.env):=fun{L Y s g Q E} k w q=>by
 induction a using bt.casesOn with
 |f x=>
  have w:aQ X Z (match bG x L with
   |some (.l d)=>g (dI d) L Y
   |some _=>g (g9 x) L Y
   |none=>.a):=w
  induction e:bG x L with
  |none=>rw[e] at w;exact w.elim
  |some S=>
   rw[e] at w;refine(k.fr x _ e).elim fun v p=>pX o h p.1 ?_;induction S with
   |l d=>exact q (.of k) (.of p.2) w
   |own z=>exact q (d:=g9 x) (.of k) (p.2.imp fun a h=>⟨ai,h⟩) w
   |a z=>exact q (d:=g9 x) (.of k) (p.2.imp fun a h=>⟨af,h⟩) w
 |attr b x=>
  obtain⟨i,h⟩:=bS.mp h;refine z2 R o i h k (show aQ X Z (qu r b x L Y fun t L Y=>match t.2 with
   |.l d=>g (dI d) L Y
   |.box _=>g (dI (da t.1 x)) L Y) from w) fun p d w=> ?_
  rename_i t _ _ _ _ _;obtain⟨j,A⟩:=t;induction A with
  |l m=>refine ay d fun u e D=> ?_;injection e with e;subst e;exact q p (.of D) w
  |box z=>refine ay d fun u e t=> ?_;injection e with e;subst e;exact q (d:=dI (da j x)) p (aI ⟨_,_,_,rfl,rfl,t⟩) w
 |_=>exact R o h k w fun p d w=>q p (.of d) w
theorem Oq (R:b2 W X Z r) (o:bj W c) (b:p3 a=af) (h:cb c.sc a ea=af):dq X Z c a.simple G a8 (fun L Y k=>qu r a x L Y fun t L Y=>match t.2 with
  |.l d=>k d L Y
  |.box _=>if jp t.1 x then k (da t.1 x) L Y else .a) (bO (iu (bz a ea) (cW x) pos) c.env):=fun{L Y s f Q E} k w q=>by
 refine z2 R o b h k (w) fun p d w=> ?_;rename_i t g S _ _ _;obtain⟨j,A⟩:=t;induction A with
 |l i=>refine ay d fun u e D=> ?_;injection e with e;subst e;exact q p D w
 |box z=>
  refine ay d fun u e t=> ?_;injection e with e;subst e;have w:aQ X Z (if jp j x then f (da j x) g S else .a):=w
  split at w
  ·rename_i n;exact q (d:=da j x) p ⟨n,_,rfl,t⟩ w
  ·exact w.elim
theorem sW (w:aQ X Z (i3 z L Y k)):∃q,z.now L Y=ac q∧aQ X Z (k q):=by
 unfold i3 at w;induction h:z.now L Y with
 |none=>rw[h] at w;exact w.elim
 |some q=>rw[h] at w;exact bd q rfl w
theorem zI {i:String} (a:s.TypeIs o T) (l:typeLookup (bn T) "__getitem__"=dm (ac (bJ i))) (h:Q ai s):aH (aN aC c.w) c.A (getitemInPython o) Q E s:=by
 refine ak (getitemInPython_of_ne a.not_modules) (aG (uc a l ?_));first|exact wpAny_pure h|exact wpAny_bind (wpAny_pure h)
theorem f6 [Decidable p] (w:aQ X Z (if p then t else .a)):p∧aQ X Z t:=by
 by_cases h:p
 ·rw[aJ h] at w;exact⟨h,w⟩
 ·rw[aL h] at w;exact w.elim
theorem uO {z:nM} {b:Bool} (h:(!z.box||b)=af):z.box=af→b=true:=fun e=>by rw[e] at h;exact h
theorem LU (R:b2 W X Z r) (o:bj W c) (f:cb c.sc a ea=af) (h:cb c.sc b g=af):dq X Z c (a.simple&&b.simple) G a8 (fun L Y k=>f2 r a L Y fun z L Y=>if !z.box||b.simple then r.e b L Y fun d L Y=>i3 z L Y fun q=>e_ (.get q d) fun v=>k v L Y else .a)
  (bO (pH (bz a ea) (bz b g) pos) c.env):=fun{L Y s F Q E} k w q=>by
 rw[Su];refine aG (lb R o f k w fun P C w=>aG (eF ((f6 w).elim fun j w=>(R o h P.k w fun p D w=>aG (fw ((sW w).elim fun I m=>m.elim fun n x=>x.elim fun v y=>y.elim fun e w=> ?_))))));have S:=rK P.k C p (uO j) n;refine bK (zJ p.k S) fun T i A l=>aG (zI A l ?_);rw[(hO h).sub];exact aG (Ej (FL o p.k S D e fun u t B=>aG (DW (bo (q ⟨(P.tr p).l,(P.tr p).h,p.k.tok t⟩ B w)))))
theorem Ar (R:b2 W X Z r) (a:bj W c) (h:vS c.sc o e=af):dq X Z c (nl o) G (fun _ p v=>i0 v p) (qb r o) (evalPart (tK o e) c.env):=fun{L Y s b Q E} k w q=>by
 induction o with
 |none=>exact bo (q (.of k) rF w)
 |some m=>
  refine R a h k w fun p d w=> ?_;rename_i D _ _ _ _ _;induction D using aj.casesOn with
  |int i=>obtain⟨t,rfl⟩:=d;exact q p (.int _ _) w
  |_=>exact w.elim
theorem Oz (R:b2 W X Z r) (g:bj W c) {o i:Option bt} (y:cb c.sc a ea=af) (j:vS c.sc o A=af) (B:vS c.sc i D=af):dq X Z c (a.simple&&(nl o&&nl i)) G a8
  (fun L Y k=>f2 r a L Y fun z L Y=>if !z.box||(nl o&&nl i) then qb r o L Y fun l L Y=>qb r i L Y fun h L Y=>i3 z L Y fun q=>e_ (.cut l h q) fun v=>k v L Y else .a)
  (bO (pH (bz a ea) (.Slice (tK o A) (tK i D) ah p') pos) c.env):=fun{L Y s δ Q E} k w q=>by
 rw[Su];refine aG (lb R g y k w fun P C w=>aG (eF (wpAny_Slice ((f6 w).elim fun F w=>(Ar R g j P.k w fun m l w=>Ar R g B m.k w fun t u w=> ?_)))));rename_i V _ _ _ _ _ _ M S;rw[evalPart_none];refine bo (aG (fw ((sW w).elim fun ε N=>N.elim fun n U=>U.elim fun v α=>α.elim fun e w=> ?_)));have p:=m.tr t;have f:=t.k.kp (h':=S.heap.push {cls:=bn "slice",data:=m8 #[V,M,dj]}) (tk:=S.toks) fun _ _ _ h=>iq _ h;have x:=rK P.k C ⟨p.l,p.h,f⟩ (uO F) n;refine bK (zJ f x) fun T I β j=>aG (zI β j (aG (Ej (JF f x (gX _ (g4 _ rfl) rfl rfl) l u e fun γ d=>aG (DW (bo (q ?_ d w)))))));have:=(P.tr p).tr ((bT.mk (b:=af) .f (fun _ _ _ h=>h) f).tr γ);rwa[Ei,n9] at this
end
section
variable{Y:ar}
theorem BS (R:b2 W X Z r) (y:bj W c) (N:cb c.sc a ea=af) (M:cb c.sc b I=af) {K:Bool→au→ar→aT} (k:aU c G L Y s) (w:aQ X Z (wj r o a b L Y K)) (q:∀{v l st' F x},bT ai c G F l st' x→aQ X Z (K v l st')→Q (cC v) x):
  aH (aN aC c.w) c.A (bO (bz a ea) c.env) (fun V m=>aH (aN aC c.w) c.A (bO (bz b I) c.env) (fun j S=>aH (aN aC c.w) c.A (gr o V j) Q E S) E m) E s:=by
 have C:∀{D:aj} {A:au} {B:ar} {g:bN} {V:aV} {m:ct},bT a.simple c G g A B m→a8 g D V→aQ X Z (r.e b A B fun T L Y=>aT.b (.k o D T) fun v=>K v L Y)→
   aH (aN aC c.w) c.A (bO (bz b I) c.env) (fun j S=>aH (aN aC c.w) c.A (gr o V j) Q E S) E m:=fun p d w=>R y M p.k w fun P U w=>w.elim fun v h=>Pt y P.k h.1 (d.mono P.l.ld) U (q (p.low.tr P.low) h.2)
 have i:∀{D:aj} {A:au} {B:ar} {g:bN} {V:aV} {m:ct} {K:Bool→au→ar→aT} {o:m_},bT a.simple c G g A B m→a8 g D V→aQ X Z (f2 r b A B fun z L Y=>i3 z L Y fun q=>aT.b (.has D q) fun v=>K v L Y)→
   (∀{v l st' F x j},bT ai c G F l st' x→aQ X Z (K v l st')→aH (aN aC c.w) c.A (gr c7 V j) (fun u S=>u=cC v∧aU c F l st' S) E x→aH (aN aC c.w) c.A (gr o V j) Q E x)→
   aH (aN aC c.w) c.A (bO (bz b I) c.env) (fun j S=>aH (aN aC c.w) c.A (gr o V j) Q E S) E m:=fun p d w f=>lb R y M p.k w fun P α w=>by
    obtain⟨β,n,v,e,w⟩:=sW w;exact f (p.low.tr P.low) w (Kg y P.k (rK P.k α (.of P.k) (fun _=>rfl) n) (d.mono P.l.ld) e fun t=>⟨rfl,P.k.tok t⟩)
 refine R y N k w fun p d w=> ?_;induction o with
 |In=>exact i p d w fun p w h=>d9 h (fun u S ⟨e,k⟩=>e▸q ⟨p.l,p.h,k⟩ w) fun _ _ h=>h
 |NotIn=>exact i p d w fun p w h=>FE (d9 h (fun u S ⟨e,k⟩=>⟨e,q ⟨p.l,p.h,k⟩ w⟩) fun _ _ h=>h)
 |_=>exact C p d w
theorem Ck (h:∀p,behindInMarks p e=ai):lastMarks [o,q] [x,e]=false:=h q
theorem Fm (R:b2 W X Z r) (o:bj W c) (n:cb c.sc a ea=af) (t:cb c.sc b u=af) (i:cb c.sc m x=af):dq X Z c ai G a8 (fun L Y k=>if(oY q 0 0).isSome then r.e a L Y fun y L Y=>r.e b L Y fun D L Y=>aT.b (.s p y D) fun v=>
   if v then r.e m L Y fun z L Y=>aT.b (.s q D z) fun v=>k (aA v) L Y else k (aA ai) L Y else .a) (bO (rA (bz a ea) [p,q] [bz b u,bz m x] pos) c.env):=fun{L Y s C Q E} k w g=>by
 obtain⟨_,w⟩:=f6 w;refine Compare_chain (R o n k w fun f A w=>chain_link (R o t f.k w fun P j w=>(ay w ?_))) (Ck (hO i).mark);clear w;intro v e w;refine tj e (A.mono P.l.ld) j (rg ?_);induction v with
 |false=>exact g (d:=aA ai) (f.low.tr P.low) rfl w
 |true=>exact chain_last (R o i P.k w fun l B w=>w.elim fun v h=>tj h.1 (j.mono l.l.ld) B (g (d:=aA v) ((f.low.tr P.low).tr l.low) rfl h.2))
theorem Fq (R:b2 W X Z r) (o:bj W c) (n:cb c.sc a ea=af) (t:cb c.sc b x=af) (i:cb c.sc m y=af) {K:Bool→au→ar→aT} (k:aU c G L Y s) (w:aQ X Z (if(oY q 0 0).isSome then r.e a L Y fun z L Y=>r.e b L Y fun d L Y=>aT.b (.s p z d) fun v=>
   if v then r.e m L Y fun A L Y=>aT.b (.s q d A) fun v=>aT.b (hG (aA v)) fun b=>K b L Y else aT.b (hG (aA ai)) fun b=>K b L Y else .a)) (g:∀{v l st' B S},bT ai c G B l st' S→aQ X Z (K v l st')→Q v S):aH (aN aC c.w) c.A (lX (rA (bz a ea) [p,q] [bz b x,bz m y] pos) c.env I) Q E s:=by
 refine(f6 w).elim fun _ w=>isTrue_chain (R o n k w fun f C w=>test_link (R o t f.k w fun P D w=> ?_)) (Ck (hO i).mark);refine ay w ?_;clear w;intro v e w;refine tj e (C.mono P.l.ld) D (rg ?_);induction v with
 |false=>refine ay w ?_;clear w;intro u e w;injection e with e;subst e;exact g (f.low.tr P.low) w
 |true=>exact test_last (R o i P.k w fun j F w=>w.elim fun v h=>tj h.1 (D.mono j.l.ld) F (rg (h.2.elim fun u h=>by cases h.1;exact g ((f.low.tr P.low).tr j.low) h.2)))
set_option backward.match.sparseCases true in
theorem Bo (R:b2 W X Z r) (f:bj W c) (g:o=cond h .And .Or):∀{l:List c6} {G:bN},eQ c.sc E l=af→dq X Z c ai G a8 (wg r h E) (boolOp pos o (evalEach (dJ E l) c.env)):=by
 induction E with
 |nil=>exact fun _=>fun _ w _=>w.elim
 |cons m E i=>
  induction E using cn with
  |nil=>exact fun a=>fun k w q=>R f (bS.mp a).1 k w fun p d w=>q p.low d w
  |cons n E=>
   intro l G a;refine fun k w q=> ?_
   refine(?_:aH _ _ (do
     let v←bO (bz m (l.headD fy)) c.env
     uA pos
     let t←holding [v] (rC v)
     match o,t with
     |.And,false|.Or,true=>dm v
     |_,_=>boolOp pos o (evalEach (dJ (n::E) l.tail) c.env)) _ _ _)
   refine aG (R f (bS.mp a).1 k w fun p d w=>aG (fw (ay w ?_)));clear w;intro t e w;refine aG (eF (sP p.k e d fun z=> ?_));have P:=p.low;subst g;induction h<;>induction t
   ·exact i (bS.mp a).2 (P.k.tok z) w fun b d w=>q (bT.tr (bT.mk P.l P.h (P.k.tok z)) b) d w
   ·exact bo (q ⟨P.l,P.h,P.k.tok z⟩ d w)
   ·exact bo (q ⟨P.l,P.h,P.k.tok z⟩ d w)
   ·exact i (bS.mp a).2 (P.k.tok z) w fun b d w=>q (bT.tr (bT.mk P.l P.h (P.k.tok z)) b) d w
theorem y3 (T:hI W X Z r) (o:bj W c) (g:j=cond h .And .Or):∀{l:List c6} {G:bN},eQ c.sc E l=af→dq X Z c ai G (fun _ a b=>a=b) (uL r h E) (allTrue j (dJ E l) c.env):=by
 subst g;induction E with
 |nil=>
  refine fun l G f=>fun k w q=>(?_:aH _ _ (allTrue _ [] _) _ _ _);rw[arm_allTrue_nil];refine bo (q (.of k) ?_ w);induction h<;>rfl
 |cons m E i=>
  intro l G f;refine fun k w q=>(?_:aH _ _ (allTrue _ (_::dJ E l.tail) _) _ _ _);rw[arm_allTrue_cons];refine aG (T o (bS.mp f).1 k w fun p e w=> ?_);subst e;rename_i t _ _ _ _;induction h<;>induction t
  ·exact i (bS.mp f).2 p.k w fun P d w=>q (p.low.tr P) d w
  ·exact bo (q p.low rfl w)
  ·exact bo (q p.low rfl w)
  ·exact i (bS.mp f).2 p.k w fun P d w=>q (p.low.tr P) d w
end
section
variable{c:dr}
theorem M3 {e:List eT} (a:(d==yy)=ai) (h:s.heap.get? d=ac o) (b:o.ExactDict) (t:o.data=k9 e.toArray p)
  (f:Q (am s.heap.objs.size) {s with heap:=s.heap.push {cls:=bn "dict_keyiterator",data:=m8 #[am d,aq 0 0,aq e.length 0,aq p 0]}}):aH (aN aC c.w) c.A (km (am d)) Q E s:=by
 have T:s.TypeIs (am d) "dict":=bd o h b.1;refine wpAny_pyIter_slot T Q9 (pA Q9 T PySem.F.entry_dict_iter (aG (aG (R8 T (bo (?_:aH _ _ (Q0 d>>=_) _ _ s))))) (PySem.F.args_dict_iter_1 _));unfold Q0;refine ak (aL (by refine ak a ?_;exact cp)) ?_;refine aG (bo (aG (t8 h t (aG (El h t (aG (t7 (bo ⟨_,rfl,"dict_keyiterator",_,⟨_,g4 _ rfl,rfl⟩,tS.lookup, ?_⟩))))))));simpa[oj] using f
theorem Nr {a:List eT} (h:s.heap.IsKeyIter I d i a.length p) (g:s.heap.get? d=ac o) (j:o.data=k9 a.toArray p) (x:a[i]? =ac e)
  (m:∀h',h'.IsKeyIter I d (i+1) a.length p→hC I s.heap h'→Q (ac e.key) {s with heap:=h'}):aH (aN aC c.w) c.A (uD (am I)) Q E s:=by
 refine eB (id h) fun r f n b=> ?_
 refine aG (EG (xV h.typeIs tS
  (pA tS h.typeIs QO ?_ (QN _))))
 refine aG (bo (aG ?_));refine aG ?_;first|refine wpAny_bind (wpAny_typeNameOfWhole_keyiter h.typeIs (wpAny_pure ?_))|refine wpAny_bind (wpAny_typeNameOf_keyiter h.typeIs (wpAny_pure ?_))
 refine wpAny_bind (wpAny_fieldsOf f b (ak (show Builtin.Dict_items.ownsTuple "dict_keyiterator"=false by decide) ?_));refine((ak (if_neg (show¬((Value.ref d==Value.none)=true) from Bool.false_ne_true)) ?_):wpAny _ _ (if(Value.ref d==Value.none)=true then _ else _) _ _ s)
 refine wpAny_bind (wpAny_pure (wpAny_bind (wpAny_dictEntries g j ?_)));refine ak (if_neg (by simp)) (wpAny_bind (wpAny_pure ?_));refine wpAny_bind (wpAny_dictEpoch g j (ak (if_neg (by simp)) ?_));refine wpAny_pure ?_;have t:=(List.getElem?_eq_some_iff.mp x).1;have q:i<a.toArray.size:=by simpa using t
 have k:a.toArray[i].key=e.key:=by
  have:=(List.getElem?_eq_some_iff.mp x).2;simp[this]
 refine((ak (show(if(i:Int)<0 then(none:Option DictEntry) else a.toArray[(i:Int).toNat]?)=some a.toArray[i] from(if_neg (Int.not_lt.mpr (Int.natCast_nonneg i))).trans (Array.getElem?_eq_getElem q)) ?_):wpAny _ _ (match(if(i:Int)<0 then(none:Option DictEntry) else a.toArray[(i:Int).toNat]?) with|some e=>_|none=>_) _ _ s)
 refine aG ?_;first|refine wpAny_bind (wpAny_typeNameOfWhole_keyiter h.typeIs (wpAny_pure ?_))|refine wpAny_bind (wpAny_typeNameOf_keyiter h.typeIs (wpAny_pure ?_))
 refine wpAny_bind (wpAny_isOneOf_keyiter h.typeIs (?_:wpAny _ _ (setField (.ref I) 1 (rawInt ((i:Int)+1))>>=_) _ _ s));refine wpAny_bind (wpAny_setField f b (by simp) ?_)
 have l:(s.heap.update I (Obj.mapFields (·.setIfInBounds 1 (rawInt ((i:Int)+1))))).IsKeyIter I d (i+1) a.length p:=
  gX _ (Heap.get?_update_self _ f (Obj.isFreed_of_fields (Obj.data_mapFields b _))) ((Obj.cls_mapFields ..).trans n) (by rw[Obj.data_mapFields b];simp[rawInt])
 refine wpAny_bind (wpAny_holding (wpAny_bind (wpAny_isOneOf_keyiter (s:={s with heap:=s.heap.update I (Obj.mapFields (·.setIfInBounds 1 (rawInt ((i:Int)+1))))}) l.typeIs ?_)));exact ak k (wpAny_pure (wpAny_pure (bd _ rfl (wpAny_pure (m _ l (Heap.SameBut.update ..))))))
theorem PX {a:List eT} (k:c.A.handled=ah) (h:s.heap.IsKeyIter i d a.length a.length p) (b:s.heap.get? d=ac o) (f:o.data=k9 a.toArray p)
  (l:∀h',Heap.ExtBut i s.heap h'→Q ah {s with heap:=h'}):aH (aN aC c.w) c.A (uD (am i)) Q E s:=by
 refine eB (id h) fun n g q j=> ?_
 refine aG (EG (xV h.typeIs tS
  (pA tS h.typeIs QO ?_ (QN _))))
 refine aG (bo (aG ?_));refine aG ?_;first|refine wpAny_bind (wpAny_typeNameOfWhole_keyiter h.typeIs (wpAny_pure ?_))|refine wpAny_bind (wpAny_typeNameOf_keyiter h.typeIs (wpAny_pure ?_))
 refine wpAny_bind (wpAny_fieldsOf g j (ak (show Builtin.Dict_items.ownsTuple "dict_keyiterator"=false by decide) ?_));show wpAny _ _ (if(Value.ref d==Value.none)=true then _ else _) _ _ s
 refine ak (if_neg (show¬((Value.ref d==Value.none)=true) from Bool.false_ne_true)) (wpAny_bind (wpAny_pure ?_));refine wpAny_bind (wpAny_dictEntries b f (ak (if_neg (by simp)) ?_));refine wpAny_bind (wpAny_pure (wpAny_bind (wpAny_dictEpoch b f ?_)));refine ak (if_neg (by simp)) (wpAny_pure ?_);have m:a.toArray.size≤a.length:=by simp
 refine((ak (show(if(a.length:Int)<0 then(none:Option DictEntry) else a.toArray[(a.length:Int).toNat]?)=none from(if_neg (Int.not_lt.mpr (Int.natCast_nonneg a.length))).trans (Array.getElem?_eq_none m)) ?_):wpAny _ _ (match(if(a.length:Int)<0 then(none:Option DictEntry) else a.toArray[(a.length:Int).toNat]?) with|some e=>_|none=>_) _ _ s)
 refine aG ?_;first|refine wpAny_bind (wpAny_typeNameOfWhole_keyiter h.typeIs (wpAny_pure ?_))|refine wpAny_bind (wpAny_typeNameOf_keyiter h.typeIs (wpAny_pure ?_))
 show wpAny _ _ (setField (.ref i) 0 .none>>=_) _ _ s;refine wpAny_bind (wpAny_setField g j (by simp) (wpAny_bind ?_));simp only[newExc,newTuple];refine wpAny_bind (wpAny_newObj_type ?_ (by size_fits));refine wpAny_bind (wpAny_of_eq (by first|rfl|(simp only[firstArgMember];rfl)) ?_);refine t7 (aG (wpAny_handled ?_)) (by size_fits);refine ak (k) (aG (bo (wpAny_throw ?_)));exact aG (SM (bd _ (g4 _ rfl) rfl) isSubtype_stop (bo (l _ (((nT ..).extBut.push _).push _))))
def nP (Y:ar) (bx:Option (Nat×Nat)) (ds:List aj):Prop:=match bx with
 |none=>True
 |some (k,x)=>dR k x Y=ac (.c ds)
def wF (I:bp) (h h':fT):Prop:=∀b o,b≠I→h.get? b=ac o→h'.get? b=ac o
structure kB (c:dr) (I:bp) (G:bN) (ds:List aj) (bx:Option (Nat×Nat)) (P:Nat→fT→Prop):Prop where
 ty:∀{i h},P i h→∃o T,h.get? I=ac o∧o.cls=bn T∧["enumerate","zip","dict_itemiterator","dict_reverseitemiterator","odict_iterator","itertools.zip_longest","itertools.pairwise"].contains T=ai
 keep:∀{i h h'},P i h→(∀o,h.get? I=ac o→h'.get? I=ac o)→P i h'
 next:∀{g L Y s i d Q E},bV bx.isSome G g→aU c g L Y s→g I=ah→P i s.heap→nP Y bx ds→ds[i]? =ac d→(∀{v h' tk},a8 g d v→P (i+1) h'→wF I s.heap h'→Q (ac v) {s with heap:=h',toks:=tk})→aH (aN aC c.w) c.A (uD (am I)) Q E s
 self:∀{g L Y s i Q E},bV bx.isSome G g→aU c g L Y s→g I=ah→P i s.heap→Q (am I) s→aH (aN aC c.w) c.A (km (am I)) Q E s
 done:∀{g L Y s Q E},bV bx.isSome G g→aU c g L Y s→g I=ah→P ds.length s.heap→nP Y bx ds→(∀{h' tk},wF I s.heap h'→Q ah {s with heap:=h',toks:=tk})→aH (aN aC c.w) c.A (uD (am I)) Q E s
theorem Ao (t:bj w c) (j:∀{g:bN} {L:au} {Y:ar} {s:ct},bV bx.isSome G g→aU c g L Y s→nP Y bx ds→∃vs n,s.heap.get? ax=ac (d5 vs n)∧dy g ds vs):kB c I G ds bx (fun i h=>h.IsListIter I ax i) where
 ty:=fun z=>eB z fun o a u _=>er o _ a u (by decide)
 keep:=fun⟨o,a,z⟩ k=>bd o (k o a) z
 next:=fun l k n p f d h=>by
  exact bK (j l k f) fun vs m a r=>ay (r.get d) fun v x D=>wpAny_pyNext_list_item p ⟨_,a,rfl,m,rfl⟩ ((pn ..).trans x) fun y q A=>h D q fun b o f a=>(A.2 b f).trans a
 self:=fun l k n p h=>wpAny_pyIter_listiter p h
 done:=fun l k n p f h=>by
  refine bK (j l k f) fun vs m a r=> ?_;exact wpAny_pyNext_list_end t.b p ⟨_,a,rfl,m,rfl⟩ (Ri (by rw[d2,r.len];exact bv _)) fun y e=>h fun b o f a=>e b o f a
theorem H_ (x:bj w c) {m:Nat} (t:G ax=ac (.d (.j ds) (lC vs m))) (r:dy G ds vs):kB c I G ds ah (fun i h=>h.IsTupleIter I ax i) where
 ty:=fun z=>eB z fun o a A _=>er o _ a A (by decide)
 keep:=fun⟨o,a,z⟩ k=>bd o (k o a) z
 next:=fun{g _ _ s i _ Q E} l k n p f d h=>by
  have T:=l ax (.d _ _) trivial t;refine ay (r.get d) fun v j D=> ?_;have a:=(k.ok _ _ T).elim fun o h=>h.2.1▸h.1;have j:=(pn ..).trans j;have B:=(Array.getElem?_eq_some_iff.mp j).1;refine(Es x.b I ax (fun e=>by rw[e,n] at T;injection T) vs.toArray).item i s Q E B ⟨p,_,a,rfl,m,rfl⟩ fun u C F P S y=> ?_;rw[j] at P;injection P with P;subst P;exact h (D.mono l.ld) S.1 fun b o f a=>y b o (fun q=>f (bW.mp q)) a
 self:=fun{g _ _ s i Q E} l k n p h=>by
  have T:=l ax (.d _ _) trivial t;have a:=(k.ok _ _ T).elim fun o h=>h.2.1▸h.1;exact(Es x.b I ax (fun e=>by rw[e,n] at T;injection T) vs.toArray).self _ s Q E ⟨p,_,a,rfl,m,rfl⟩ h
 done:=fun{g _ _ s Q E} l k n p f h=>by
  have T:=l ax (.d _ _) trivial t;have a:=(k.ok _ _ T).elim fun o h=>h.2.1▸h.1;exact(Es x.b I ax (fun e=>by rw[e,n] at T;injection T) vs.toArray).done s Q E ⟨by rw[d2,r.len];exact p,_,a,rfl,m,rfl⟩ fun C F y=>h fun b o f a=>y b o (fun q=>f (bW.mp q)) a
theorem OR (A:bj w c):kB c I G (x.cps.toList.map fun c=>bP ⟨#[c]⟩) ah (fun i h=>h.IsStrIter I (pF x) x t i) where
 ty:=fun z=>eB z fun o j L _=>er o _ j L (by unfold pF;split<;>decide)
 keep:=fun⟨o,j,z⟩ k=>bd o (k o j) z
 next:=fun{g _ _ s i d Q E} l k n p m M h=>by
  refine ay (dX .. ▸M|>dg.mp) fun y D N=> ?_;subst N;have F:i<x.cps.size:=by rw[←q'];exact(hy.mp D).1
  have f:∀v,SignAt x i v→a8 g (bP ⟨#[y]⟩) v:=fun v z=>bK z fun z u B e=>by
   rw[←Rp,D] at B;injection B with B;subst B;exact⟨u,e⟩
  unfold pF at p;split at p
  ·rename_i a;exact(Ec A.b I x t).item i s Q E F p fun v C T P S r=>h (f v P) (by unfold pF;rw[aJ a];exact S) fun b o m j=>r b o (fun q=>m (bW.mp q)) j
  ·rename_i a;exact(Ef A.b I x t).item i s Q E F p fun v C T P S r=>h (f v P) (by unfold pF;rw[aL a];exact S) fun b o m j=>r b o (fun q=>m (bW.mp q)) j
 self:=fun{g _ _ s i Q E} l k n p h=>by
  unfold pF at p;split at p
  ·exact(Ec A.b I x t).self _ s Q E p h
  ·exact(Ef A.b I x t).self _ s Q E p h
 done:=fun{g _ _ s Q E} l k n p m h=>by
  rw[aB,q'] at p;unfold pF at p;split at p
  ·exact(Ec A.b I x t).done s Q E p fun C T r=>h fun b o m j=>r b o (fun q=>m (bW.mp q)) j
  ·exact(Ef A.b I x t).done s Q E p fun C T r=>h fun b o m j=>r b o (fun q=>m (bW.mp q)) j
theorem J3 (m:bj w c) {a b:Int}:kB c I G (f4 a b) ah (fun i h=>IsRangeIter h I (a+(i:Nat)*1) (((b-a).toNat:Int)-(i:Nat)) 1) where
 ty:=fun q=>er _ _ q rfl (by decide)
 keep:=fun q k=>k _ q
 next:=fun{g _ _ s i d Q E} l k n p e z h=>by
  refine ay (dX .. ▸z|>dg.mp) fun j f y=> ?_;subst y;have x:i<(b-a).toNat:=by have:=(hy.mp f).1;rwa[gm] at this
  rw[tZ x] at f;injection f with f;subst f;refine(Et m.b I a 1 (b-a).toNat).item i s Q E x p fun v A T P S r=> ?_;obtain⟨t,rfl⟩:=P;exact h ⟨t,by rw[Int.mul_one]⟩ S fun b o e u=>r b o (fun q=>e (bW.mp q)) u
 self:=fun{g _ _ s i Q E} l k n p h=>(Et m.b I a 1 (b-a).toNat).self _ s Q E p h
 done:=fun{g _ _ s Q E} l k n p e h=>by
  unfold f4 at p;rw[aB,gm] at p;exact(Et m.b I a 1 (b-a).toNat).done s Q E p fun A T r=>h fun b o e u=>r b o (fun q=>e (bW.mp q)) u
end
open scoped Classical
theorem Ln:((mN.map (·.1)).all fun g=> !(ed g==("__debug__":br)))=true:=by kernel_rfl
theorem ml (h:(!b)=af):b=false:=by cases b<;>first|rfl|exact absurd h Bool.false_ne_true
section
variable{Y:ar}
theorem sT (B:en c.w mg mb) (o:bj w c) (k:aU c G L Y s) (b:mV c.sc (ed g)=af) (f:(g,fv)∈mN) (v:(∃i,fv=bJ i)∨∃T,fv=bn T) (e:gL pos (gt a c.env)=(ai,t)::ts) (p:ts.any (·.1)=ai)
  (h:aH (aN aC c.w) c.A (lW ((ai,t)::ts)) (fun vs S=>aH (aN aC c.w) c.A (gN fv vs) Q E S) E s):aH (aN aC c.w) c.A (bO (i1 (ey (ed g) p') a [] pos) c.env) Q E s:=by
 obtain⟨j,l⟩:=B.blt _ _ f;have d:(ed g==("__debug__":br))=false:=ml (cH.mp Ln g (cr.mpr ⟨_,f,rfl⟩));refine SQ (Se o.l (o.glob _ (Af b)) (loadGlobal_builtin (mg:=mg) (mb:=mb) (by rw[o.v];exact k.ns B.ns) j (by rw[o.B];exact k.ns B.a) l ?_) d);rw[e];have p:(((ai,t)::ts).any fun x:Bool×h8 aV=>x.1)=false:=p;rcases v with⟨i,rfl⟩|⟨T,rfl⟩
 ·exact callWith_builtin p (evalArgs_plain h)
 ·exact PyProof.Rows.callWith_type p (evalArgs_plain h)
theorem Ba (h:tN e):gL pos (gt [e] E)=[(ai,bO e E)]:=by rw[h.a];rfl
theorem De (h:tN e) (h':tN f):gL pos (gt [e,f] E)=(ai,bO e E)::gL pos [(ai,bO f E)]:=by rw[h.a,h'.a];rfl
theorem NP (j:bj w c) (t:G ax=ac (.d (.e s) o)) (d:o.data=k9 E.toArray m) (r:dQ (fun p e=>a8 G p.1 e.key) s E):kB c I G (s.map (·.1)) ah (fun i h=>h.IsKeyIter I ax i E.length m) where
 ty:=fun⟨o,a,u,_⟩=>⟨o,_,a,u,by decide⟩
 keep:=fun⟨o,a,z⟩ k=>⟨o,k o a,z⟩
 next:=fun l k n p f v h=>by
  have T:=l ax (.d _ _) trivial t;have a:=(k.ok _ _ T).elim fun o h=>h.2.1▸h.1;obtain⟨q,x,rfl⟩:=dX .. ▸v|>dg.mp;obtain⟨e,g,D⟩:=r.get x;exact Nr p a d g fun y q A=>h (D.mono l.ld) q fun b o f a=>(A.2 b f).trans a
 self:=fun l k n p h=>wpAny_pyIter_keyiter p h
 done:=fun l k n p f h=>by
  have T:=l ax (.d _ _) trivial t;have a:=(k.ok _ _ T).elim fun o h=>h.2.1▸h.1;rw[aB,←r.len] at p;exact PX j.b p a d fun y g=>h fun b o f a=>g b o f a
theorem HW (h:mL G s A):∀{E:List eT},Pairs (md w) E A→dQ (fun p e=>a8 G p.1 e.key) s E:=by
 induction h with
 |nil=>intro E p;cases p;exact cI
 |cons a _ i=>intro E p;cases p with
  |cons k _ p=>exact cy (a.1▸CX k) (i p)
theorem Hu (h:oG G k A):dQ (fun(p:aj×aj) (e:eT)=>a8 G p.1 e.key) k (A.map (entryOfKey (g0 w))):=by
 exact h.rec cI fun a _ i=>cy (a.1▸a.2.1) i
structure wA (c:dr) (G g:bN) (ds:List aj) (bx:Option (Nat×Nat)) (L:au) (Y:ar) (I:bp) (s:ct):Prop where
 p:bT ai c G g L Y s
 free:g I=ah
 a:∃P,kB c I g ds bx P∧P 0 s.heap
 box:nP Y bx ds
theorem bT.push (p:bT f c G g L Y s) (o:cl) {tk:Nat}:bT ai c G g L Y {s with heap:=s.heap.push o,toks:=tk}:=⟨p.l.low,p.h,p.k.kp (h':=s.heap.push o) (tk:=tk) fun _ _ _ a=>iq o a⟩
theorem I7 (k:aU c G L Y s) {a:bp} (f:s.heap.get? a=ac o) (r:cQ c.w G o (.e l)):∃E b,o.ExactDict∧o.data=k9 (Ep E) b∧dQ (fun(p:aj×aj) (e:eT)=>a8 G p.1 e.key) l E:=
 r.2.elim (fun⟨A,q,d⟩=>by obtain⟨_,E,b,h,g,i,_,j,_⟩:=d _ _ f;obtain rfl:=bD (f.symm.trans h);exact⟨E.toList,b,g,i,HW q j⟩)
  fun⟨A,q,d⟩=>by obtain⟨_,E,b,h,g,i,j,_⟩:=d _ _ f (ta k.E q);obtain rfl:=bD (f.symm.trans h);exact⟨E.toList,b,g,i,j▸Hu q⟩
theorem OS (u:bj w c) (p:bT f c G g L Y s) (D:a8 g d v) (N:∀j x,d≠da j x) (e:d.sq Y=ac q) (h:∀{I S},wA c G g (sb q) ah L Y I S→Q (am I) S):aH (aN aC c.w) c.A (km v) Q E s:=by
 have k:=p.k;have n:=k.B;induction d using aj.casesOn with
 |j z=>
  have e:=bD e;subst e;exact k.sqv af D fun a V m i t b r _ _=>i▸wpAny_pyIter_tuple (items:=V.toArray) ⟨_,b,rfl,m,rfl⟩ (h ⟨p.push _,n,⟨_,H_ u t r,⟨_,g4 _ rfl,rfl,rfl⟩⟩,trivial⟩)
 |c z=>
  have e:=bD e;subst e;exact k.sqv ai D fun a V m i t b r _ _=>i▸Ea (items:=V.toArray) ⟨_,b,rfl,m,rfl⟩ (h ⟨p.push _,n,⟨_,Ao (ax:=a) u fun{M P R T} l A _=>⟨V,m,(A.ok _ _ (l _ (.d _ _) trivial t)).elim fun o h=>h.1.trans (aS ac h.2.1),dy.mono l.ld r⟩,⟨_,g4 _ rfl,rfl,rfl⟩⟩,trivial⟩)
 |e U=>
  have e:=bD e;subst e;obtain⟨a,o,i,t⟩:=D;obtain⟨W,b,B,r⟩:=k.ok _ _ t;subst i B;exact cE (I7 k b r) fun X Z C y F=>M3 (k.nmod fun o e=>(nomatch bD (t.symm.trans e))) b C y (h ⟨p.push _,n,⟨_,NP u t y F,⟨_,g4 _ rfl,rfl,rfl⟩⟩,trivial⟩)
 |str x=>
  have e:=bD e;subst e;exact D.elim fun t e=>e▸wpAny_pyIter_strU (h ⟨p.push _,n,⟨_,OR u (t:=t),⟨_,g4 _ rfl,rfl,rfl⟩⟩,trivial⟩)
 |box j x=>exact aR rfl (N j x)
 |_=>exact nomatch e
theorem sj {a:Int} (h:a.natAbs≤100000): -2^62≤a∧a<2^62:=⟨lQ (Sx (gq.mpr (aD h rfl))) (Int.neg_le_of_neg_le (a.natAbs_neg▸SL)),DY SL (g5.mpr (aD (b3 h) rfl))⟩
theorem zp (o:bj w c) (p:bT f c G g L Y s) {a b:Int} (r:IsRange s.heap R a b 1 t u v) (hz:a.natAbs+b.natAbs≤100000) (h:∀{I S},wA c G g (f4 a b) ah L Y I S→Q (am I) S):aH (aN aC c.w) c.A (km (am R)) Q E s:=by
 refine wpAny_pyIter_range r (small_one (sj (ao (bu ..) hz)).1 (sj (ao (bu ..) hz)).2 (sj (ao (gH ..) hz)).1 (sj (ao (gH ..) hz)).2) (h ⟨p.push _,p.k.B,⟨_,J3 o, ?_⟩,trivial⟩);have z:Tu a b 1=((b-a).toNat:Int):=(rangeSize_one ..).trans (dite (a<b) (fun q=>(aJ q).trans (DS (Eg.mpr (ui q))).symm) fun q=>(aL q).trans (aS EU (Int.toNat_eq_zero.mpr (RJ (hD.mp q)))).symm);show(s.heap.push _).get? s.heap.objs.size=_;rw[g4 _ rfl,z];simp[oj]
theorem HR {d:aj} {f:Int→aT} (w:aQ X Z (match d with|.int n=>f n|_=>.a)):∃n,d=ae n∧aQ X Z (f n):=by
 induction d using aj.casesOn with
 |int n=>exact⟨n,rfl,w⟩
 |_=>exact w.elim
@[elab_as_elim] theorem u8 {motive:aV→Prop} (D:a8 G d v) (e:d=ae n) (h:∀t,motive (aq n t)):motive v:=by
 subst e;exact D.elim fun t e=>e▸h t
theorem zT (w:aQ X Z (aT.b o fun b=>if b then t else .a)):o.e=ac af∧aQ X Z t:=w.elim fun b h=>by
 have a:=f6 h.2;exact⟨a.1▸h.1,a.2⟩
noncomputable def pV (K:List aj→Option (Nat×Nat)→au→ar→aT) (d:aj) (L:au) (Y:ar):aT:=match d.sq Y with
 |some q=>K (sb q) ah L Y
 |none=>.a
noncomputable def w0 (K:List aj→Option (Nat×Nat)→au→ar→aT) (j x:Nat) (L:au) (Y:ar):aT:=match dR j x Y with
 |some (.c d)=>K d (ac (j,x)) L Y
 |_=>.a
abbrev oS (X:dT) (Z:d1→Prop) (c:dr) (G:bN) (K:List aj→Option (Nat×Nat)→au→ar→aT) (Q:aV→ct→Prop):Prop:=∀{d b L s g I S},wA c G g d b L s I S→aQ X Z (K d b L s)→Q (am I) S
theorem Bf (o:bj W c) (p:bT f c G g L Y s) {K:List aj→Option (Nat×Nat)→au→ar→aT} (D:a8 g d v) (n:∀j x,d≠da j x) (w:aQ X Z (pV K d L Y)) (h:oS X Z c G K Q):aH (aN aC c.w) c.A (km v) Q E s:=by
 unfold pV at w;cases e:d.sq Y with
 |none=>rw[e] at w;exact w.elim
 |some q=>rw[e] at w;exact OS o p D n e fun S=>h S w
theorem Mv (k:bj W c) (p:bT f c G i L Y s) {a:bp} {K:List aj→Option (Nat×Nat)→au→ar→aT} (t:i a=ac (cJ j x)) (w:aQ X Z (w0 K j x L Y)) (h:oS X Z c G K Q):aH (aN aC c.w) c.A (km (am a)) Q E s:=by
 unfold w0 at w;cases d:dR j x Y with
 |none=>rw[d] at w;exact w.elim
 |some z=>
  rw[d] at w;induction z with
  |e _=>exact w.elim
  |c ds=>
   obtain⟨_,o,m,v,n,rfl,r,_⟩:=p.k.box t d;exact Ea (items:=v.toArray) ⟨_,m,rfl,n,rfl⟩ (h ⟨p.push _,p.k.B,⟨_,Ao (ax:=a) (bx:=ac (j,x)) (ds:=ds) k fun{u y S A} l q b=>(q.box (p:=.c ds) (l _ _ (av rfl) t) b).2.elim fun o h=>h.2.elim fun v g=>g.elim fun n g=>⟨v,n,h.1.trans (aS ac g.1),g.2.1⟩,⟨_,g4 _ rfl,rfl,rfl⟩⟩,d⟩ w)
theorem Ky (hz:bG x L=ac (bE z)):lJ x L=ac (z.frz,fZ x (.l z.frz) L):=by unfold lJ;rw[hz]
theorem MA (hz:bG x L=ac (.a z)):lJ x L=none:=by unfold lJ;rw[hz]
noncomputable def vX (K:List aj→Option (Nat×Nat)→au→ar→aT) (x:Nat) (L:au) (Y:ar):aT:=match lJ x L with
 |some (d,L)=>pV K d L Y
 |none=>.a
theorem Gv (k:bj W c) (p:bT f c G g L Y s) {a:bp} {K:List aj→Option (Nat×Nat)→au→ar→aT} (t:g a=ac (bQ l x)) (w:aQ X Z (vX K x L Y)) (h:oS X Z c G K Q):aH (aN aC c.w) c.A (km (am a)) Q E s:=by
 obtain⟨o,e,z,b,r⟩:=p.k.ok _ _ t;unfold vX at w;induction l with
 |true=>rw[MA b] at w;exact w.elim
 |false=>
  rw[Ky b] at w;refine iN (p.k.frz t b e r) fun i j m n=>Bf k (p.tr (bT.mk i j n)) (d:=z.frz) (by cases z<;>exact m) (by cases z<;>exact nofun) w @h
noncomputable def rR (K:List aj→Option (Nat×Nat)→au→ar→aT) (z:nM) (L:au) (Y:ar):aT:=match z with
 |.slot x=>vX K x L Y
 |.sq (.box j x)=>w0 K j x L Y
 |.sq d=>pV K d L Y
theorem JU (d:aj):(∃j x,d=da j x)∨((∀j x,d≠da j x)∧∀{K L Y},rR K (dI d) L Y=pV K d L Y):=by
 induction d using aj.casesOn with
 |box j x=>exact av ⟨j,x,rfl⟩
 |_=>exact aI ⟨nofun,rfl⟩
theorem ly.dv (c:ly G (dI d) v) (n:∀j x,d≠da j x):a8 G d v:=c.resolve_right fun z=>Cg z fun j x a h=>n j x h.1
theorem Gl (o:bj W c) (p:bT f c G g L Y s) {K:List aj→Option (Nat×Nat)→au→ar→aT} (C:ly g z v) (w:aQ X Z (rR K z L Y)) (h:oS X Z c G K Q):aH (aN aC c.w) c.A (km v) Q E s:=by
 induction z with
 |slot x=>exact bK C fun a l e t=>e▸Gv o p t w @h
 |sq d=>exact(JU d).elim (fun z=>oQ z fun j x e=>by subst e;exact C.bx.elim fun a z=>z.1▸Mv o p z.2 w @h) fun z=>Bf o p (C.dv z.1) z.1 (z.2▸w) @h
theorem Jn (e:qg m=ac E):m=ap 11 E:=by
 unfold qg at e;induction m using bt.casesOn with
 |call g a=>
  have e:cond (d3 g 11) (ac a) ah=ac E:=e;cases h:d3 g 11 with
  |false=>rw[h] at e;exact nomatch e
  |true=>rw[h] at e;rw[jd h,bD e]
 |_=>exact nomatch e
theorem KC (B:en c.w mg mb) (R:b2 W X Z r) (o:bj W c) {a:bt} (h:cb c.sc (ap 11 [a]) e=af) {K:List aj→Option (Nat×Nat)→au→ar→aT} (k:aU c G L Y s)
  (w:aQ X Z (r.e a L Y fun d L Y=>match d with|.int n=>aT.b (.le n.natAbs 100000) fun b=>if b then K (f4 0 n) ah L Y else .a|_=>.a)) (q:oS X Z c G K Q):
  aH (aN aC c.w) c.A (bO (bz (ap 11 [a]) e) c.env) (fun v S=>aH (aN aC c.w) c.A (km v) Q E S) E s:=by
 have h:=bS.mp h;have f:=(bS.mp h.2).1;exact sT B o k (bS.mp h.1).1 (fv:=bn "range") (by decide) (aI ⟨_,rfl⟩) (Ba (hO f)) rfl (m5 (R o f k w fun p d w=>pG ((HR w).elim fun n w=>u8 d w.1 fun t=>
  (zT w.2).elim fun g w=>call_range_1 (zp o (p.push _) (Sm ..) (by rw[Int.natAbs_zero,jI];exact dB (bD g)) fun i=>q i w))))
theorem Fu (B:en c.w mg mb) (R:b2 W X Z r) (f:bj W c) {a:bt} (h:cb c.sc (ap 11 [a,b]) m=af) {K:List aj→Option (Nat×Nat)→au→ar→aT} (k:aU c G L Y s)
  (w:aQ X Z (r.e a L Y fun d L Y=>r.e b L Y fun e L Y=>match d,e with|.int i,.int n=>aT.b (.le (i.natAbs+n.natAbs) 100000) fun b=>if b then K (f4 i n) ah L Y else .a|_,_=>.a)) (q:oS X Z c G K Q):
  aH (aN aC c.w) c.A (bO (bz (ap 11 [a,b]) m) c.env) (fun v S=>aH (aN aC c.w) c.A (km v) Q E S) E s:=by
 have h:=bS.mp h;have o:=bS.mp h.2;have g:=(bS.mp o.2).1;refine sT B f k (bS.mp h.1).1 (fv:=bn "range") (by decide) (aI ⟨_,rfl⟩) (De (hO o.1) (hO g)) rfl (m5 (R f o.1 k w fun p d w=>m5 (R f g p.k w fun P D w=>pG ?_)));rename_i x _ _ _ _ _ _ j l y _ _ _;have w:∃i,x=ae i∧∃n,j=ae n∧aQ X Z (aT.b (.le (i.natAbs+n.natAbs) 100000) fun b=>if b then K (f4 i n) ah l y else .a):=by
  clear d D p P q;induction x using aj.casesOn with
  |int i=>induction j using aj.casesOn with
   |int n=>exact⟨i,rfl,n,rfl,w⟩
   |_=>exact w.elim
  |_=>exact w.elim
 exact w.elim fun i w=>w.2.elim fun n u=>u8 d w.1 fun t=>u8 D u.1 fun T=>
  (zT u.2).elim fun z w=>call_range_2 (zp f ((p.tr P).push _) (Sm ..) (dB (bD z)) fun A=>q A w)
theorem Gp {K:List aj→Option (Nat×Nat)→au→ar→aT} (e:qg m=ah):qY r m L Y K=f2 r m L Y (rR K):=by unfold qY;rw[e];rfl
theorem Bh (B:en c.w mg mb) (R:b2 W X Z r) (o:bj W c) (h:cb c.sc m d=af) {K:List aj→Option (Nat×Nat)→au→ar→aT} (k:aU c G L Y s) (w:aQ X Z (qY r m L Y K)) (q:∀{ds bx l st' g I S},wA c G g ds bx l st' I S→aQ X Z (K ds bx l st')→Q (am I) S):
  aH (aN aC c.w) c.A (bO (bz m d) c.env) (fun v f=>aH (aN aC c.w) c.A (km v) Q E f) E s:=by
 cases e:qg m with
 |none=>exact lb @R o h k (K:=rR K) (Gp e▸w) fun p C w=>Gl o p C w @q
 |some i=>
  have j:=Jn e;subst j;clear e;rcases i with _|⟨a,_|⟨b,_|_⟩⟩
  ·exact w.elim
  ·exact KC B @R o h k w @q
  ·exact Fu B @R o h k w @q
  ·exact w.elim
end
theorem vy {q:Nat→Bool}:∀{L:au},bG x (L.filter fun p=>q p.1)=if q x then bG x L else none:=by
 intro L;induction L with
 |nil=>
  cases q x<;>rfl
 |cons X r i=>
  obtain⟨y,s⟩:=X;by_cases h:q y=af
  ·rw[Du (p:=fun p:Nat×il=>q p.1) h];show(if y=x then ac s else bG x (r.filter fun p=>q p.1))=if q x=af then(if y=x then ac s else bG x r) else ah
   by_cases e:y=x
   ·subst e;rw[aJ rfl,aJ h,aJ rfl]
   ·rw[aL e,aL e];exact i
  ·rw[Dw (p:=fun p:Nat×il=>q p.1) h,i];show(if q x=af then bG x r else ah)=if q x=af then(if y=x then ac s else bG x r) else ah
   by_cases e:y=x
   ·subst e;rw[aL h,aL h]
   ·rw[aL e]
section
variable{Y:ar}
theorem aU.cut (k:aU c G L Y s) {q:Nat→Bool} (h:∀x p,bG x L=ac (.a p)→q x=af):∃d,bV af G d∧oR G d∧(∀a,G a=ah→d a=ah)∧aU c d (L.filter fun p=>q p.1) Y s:=by
 have l:bV af G (mn (fun t=>∃x,t=bQ ai x∧q x=ai) G):=Bq fun t ⟨x,e,_⟩ u=>by subst e;exact cp u
 refine CZ _ l (fun a f x e=>(fn.mp e).1) (fun a e=> ?_) (k.step (h':=s.heap) l.ls (k.bs l.low) (fun a t e=>aI ⟨(fn.mp e).1,fun _ h=>h,.c (fun f x j=> ?_) fun _ _ _ h=>l _ _ (av rfl) h⟩) (fun a b t u x y=>k.solo a b t u (fn.mp x).1 (fn.mp y).1) fun x S e=> ?_)
 ·unfold mn;refine ak e ?_;rfl
 ·subst j;obtain⟨m,n⟩:=fn.mp e;refine vy.trans (aJ ?_);induction f with
  |true=>obtain⟨_,_,p,z,_⟩:=k.ok _ _ m;exact h x p z
  |false=>exact Bool.not_eq_false _|>.mp fun z=>n ⟨x,rfl,z⟩
 ·rw[vy] at e;by_cases z:q x=af
  ·rw[aJ z] at e;exact(k.fr x S e).imp fun v y=>y.imp (iE.mono l.ls fun _ _ _ h=>h) (jx.mono l.ls fun a _ g=>fn.mpr ⟨g,fun⟨y,e,i⟩=>by cases e;rw[z] at i;injection i⟩)
  ·rw[aL z] at e;injection e
theorem Br:L.all p=af→bG x L=ac sl→p (x,sl)=true:=by
 induction L with
 |nil=>exact fun _ h=>nomatch h
 |cons y r i=>
  intro h e;have h:=bS.mp h;have e:(if y.1=x then ac y.2 else bG x r)=ac sl:=e
  by_cases q:y.1=x
  ·rw[aJ q] at e;rw[←q,←bD e];exact h.1
  ·rw[aL q] at e;exact i h.2 e
theorem sF {K:au→aT} (k:aU c G L Y s) (w:aQ X Z (jK ns L K)) {P:Prop} (q:∀{g b},bV af G g→(∀a,G a=ah→g a=ah)→aU c g b Y s→aQ X Z (K b)→P):P:=by
 unfold jK at w;induction e:oM ns L with
 |none=>rw[e] at w;exact w.elim
 |some b=>
  rw[e] at w;obtain⟨h,e⟩:=du e;injection e with e;subst e;exact qF (k.cut fun x p e=>((dK ..).mp (Br h e)).resolve_right cp) fun g l _ n d=>q l n d w
noncomputable def sL (s:gM) (t:eX):Bool:=(fM t).all (iF s)
theorem oF {K:au→aT} (w:aQ X Z (jv x sl L K)):j5 x L=ai∧aQ X Z (K (fZ x sl L)):=by
 unfold jv at w;induction h:j5 x L with
 |true=>rw[h] at w;exact w.elim
 |false=>rw[h] at w;exact⟨rfl,w⟩
theorem AE (e:o9 x sl L=ac l):j5 x L=ai∧l=fZ x sl L:=by
 unfold o9 at e;induction h:j5 x L with
 |true=>rw[h] at e;injection e
 |false=>rw[h] at e;injection e with e;subst e;exact⟨rfl,rfl⟩
theorem NY (o:bj w c):∀{a:List c6} {ds:List aj} {vs:List aV} {G:bN} {L:au} {s:ct} {Q:Unit→ct→Prop},X.all (iF c.sc)=af→aU c G L Y s→dy G ds vs→qB X ds L=ac l→(∀{g S},bT af c G g l Y S→Q () S)→
  aH (aN aC c.w) c.A (assignInOrder ((ES (qy X a) c.env).map (·.2)) vs) Q E s:=by
 induction X with
 |nil=>
  intro a ds vs G L s Q _ k D e q;cases D with
  |nil=>injection e with e;subst e;exact bo (q (.of k))
  |cons _ _=>injection e
 |cons x X i=>
  intro a ds vs G L s Q h k D e q;cases D with
  |nil=>injection e
  | @cons d v ds vs j r=>
   obtain⟨m,t⟩:=bS.mp h;refine ay (jG.mp (show(o9 x (.l d) L).bind (qB X ds)=ac l from e)) fun z u y=> ?_;obtain⟨n,rfl⟩:=AE u;exact aG (eF (Eb (s0 o k m n j fun A B b I f=>i t f (dy.mono b.ld r) y fun p=>q (bT.tr ⟨b,I,f⟩ p))))
theorem CR:∀{e:List c6},(ES (qy X e) E).length=X.length∧(ES (qy X e) E).findIdx? (·.1)=none:=by
 induction X with
 |nil=>exact⟨rfl,rfl⟩
 |cons x X i=>exact⟨aS (·+1) i.1,List.findIdx?_cons.trans (by rw[i.2];rfl)⟩
theorem QD:∀{ds:List aj} {L l:au},qB X ds L=ac l→X.length=ds.length:=by
 induction X with
 |nil=>intro ds L l e;induction ds<;>first|rfl|injection e
 |cons x X i=>
  intro ds L l e;induction ds using cn with
  |nil=>injection e
  |cons d ds=>
   exact ay (jG.mp (show(o9 x (.l d) L).bind (qB X ds)=ac l from e)) fun a _ E=>aS (·+1) (i E)
theorem vE (m:bj W c) (k:aU c G L Y s) {K:au→aT} (y:sL c.sc t=af) (D:a8 G d v) (w:aQ X Z (qG t d L K)) (q:∀{g u S},bT af c G g u Y S→aQ X Z (K u)→Q () S):aH (aN aC c.w) c.A (uE (mT t e) c.env v) Q E s:=by
 unfold qG at w;induction f:Dg t d L with
 |none=>have w:=f▸w;exact w.elim
 |some u=>
  rw[f] at w;induction t with
  |a x=>
   obtain⟨N,rfl⟩:=AE f;exact Eb (s0 m k (bS.mp y).1 N D fun g S l i C=>q ⟨l,i,C⟩ w)
  |b R=>
   induction d using aj.casesOn with
   |j T=>
    refine k.sqv af D fun A V n F t h r I z=> ?_;subst F;exact wpAny_assign_Tuple m.b ⟨_,h,rfl,n,rfl⟩ (by rw[CR.1,QD f,d2,I]) CR.2 fun M P=>NY m y (k.kp (h':=M) fun B o _ h=>P B o (hZ (ki h)) h) r f fun p=>q p w
   |_=>injection f
end
def oW (G:bN) (f:cR) (F:Flow):Prop:=match f with
 |.next=>F=h6
 |.o=>F=.brk
 |.cont=>F=.cont
 |.h d=>∃v,F=.ret v∧a8 G d v
def rS (X:dT) (Z:d1→Prop) (c:dr) (b:Bool) (G:bN) (t:au→ar→(cR→au→ar→aT)→aT) (p:h8 Flow):Prop:=
 ∀{L Y s k Q E},aU c G L Y s→aQ X Z (t L Y k)→(∀{f l S g F a},bV b G g→aU c g l S a→oW g f F→aQ X Z (k f l S)→Q F a)→aH (aN aC c.w) c.A p Q E s
theorem bV.le (h:b'=af→b=af) (l:bV b G g):bV b' G g:=fun a t u=>l a t (by
 induction t with
 |box k x=>exact u.imp h id
 |_=>exact u)
theorem bV.same (x:bV b G g) (y:bV b g d):bV b G d:=fun a t u e=>y a t u (x a t u e)
theorem sN (t:G a=ac (.a o)):iG G (kN G a):=fun b u h e=>kC.mpr ⟨(by rintro rfl;rw[t] at e;injection e with e;subst e;exact h),e⟩
section
variable{c:dr} {Y:ar}
set_option backward.match.sparseCases true in
theorem zr (x:∃o T,s.heap.get? I=ac o∧o.cls=bn T∧["enumerate","zip","dict_itemiterator","dict_reverseitemiterator","odict_iterator","itertools.zip_longest","itertools.pairwise"].contains T=ai) (h:Q () s):aH (aN aC c.w) c.A (S0 t (am I) v) Q E s:=by
 refine cE x fun o T b d e=> ?_
 have k:aH (aN aC c.w) c.A (do
   let(am r,am a):=(am I,v)|return
   let o←load r
   match o.cls,o.data with
   |.type n,.fields V=>
    if["enumerate","zip","dict_itemiterator","dict_reverseitemiterator","odict_iterator","itertools.zip_longest","itertools.pairwise"].contains n&&V[0]? ==ac (oj a) then
     rule "for.unpacks-the-owned-tuple"
     updateField r 0 dj
   |_,_=>dm ():h8 Unit) Q E s:=by
  induction v with
  |ref a=>
   refine aG (wpAny_load b (ak d ?_));cases o.data with
   |fields V=>
    dsimp only;rw[e,yf];exact bo h
   |_=>exact bo h
  |_=>exact bo h
 induction t using PySem.Expr.casesOn with
 |Tuple=>exact k
 |List=>exact k
 |_=>exact bo h
theorem Pv (h:gy bx ds Y=af):nP Y bx ds:=by
 induction bx with
 |none=>trivial
 |some p=>
  have h:(match dR p.1 p.2 Y with|some (.c E)=>hJ E ds|_=>ai)=true:=h
  show dR p.1 p.2 Y=_;induction a:dR p.1 p.2 Y with
  |none=>rw[a] at h;exact aR h cp
  |some q=>
   rw[a] at h;induction q with
   |c E=>rw[Hc _ _ h]
   |e _=>exact aR h cp
theorem aU.but (k:aU c G L Y s) (n:G I=ah) (z:wF I s.heap h) {tk:Nat}:aU c G L Y {s with heap:=h,toks:=tk}:=k.kp fun b o t=>z b o fun e=>by rw[e,n] at t;exact cp t
structure H8 (X:dT) (c:dr) (G:bN) (r:gv) (b:List ej) (t:eX) (ds:List aj) (bx:Option (Nat×Nat)) (ns:List Nat) (z:d1) (I:bp) (P:Nat→fT→Prop) (s:ct) (i:Nat) (g:bN) (L:au) (S:ar):Prop where
 le:i≤ds.length
 w:aQ X (·=z) (kI r b t (gy bx ds) ns (ds.drop i) L S dW)
 l:bV bx.isSome G g
 k:aU c g L S s
 n:g I=ah
 p:P i s.heap
 a:nP S bx ds
noncomputable abbrev OC (r:gv) (b:List ej) (t:eX) (ds:List aj) (bx:Option (Nat×Nat)) (ns:List Nat) (i:Nat) (L:au) (Y:ar):aT:=if gy bx ds Y then jK ns L (fun L=>kI r b t (gy bx ds) ns (ds.drop (i+1)) L Y dW) else .a
theorem zk (d:kB c I G ds bx P) (l:bV bx.isSome G A) (a:i<ds.length) (p:P (i+1) h) (e:h.get? I=ac o) (T:g I=ac (.a o)) (k:aU c g L Y s) (f:aU c (kN g I) L Y s) (j:bV bx.isSome G (kN g I))
  (w:aQ X (·=z) (OC r b t ds bx ns i L Y)):∃m,m<ds.length-i∧∃i g q S,m=ds.length-i∧H8 X c G r b t ds bx ns z I P s i g q S:=
 (f6 w).elim fun u w=>sF f w fun v n x w=>⟨ds.length-(i+1),RP a (lO i),i+1,_,_,Y,rfl,a,w,j.same (v.le fun _=>rfl),x,n I tO,d.keep p fun B y=>(bD (e.symm.trans y))▸(k.ok _ _ T).elim fun o z=>z.2▸z.1,Pv u⟩
theorem Ol (S:∀{Z G},rS X Z c b G (r.ss B) (execs E c.env)) (π:bj W c) (ρ:sL c.sc t=af) {ds:List aj} (σ:bx.isSome=af→b=af) (a:kB c I G ds bx P)
  (h:∀{f η g},bV ai G g→aU c g z.2.1 z.2.2 η→oW g z.1 f→R (jJ f) η) (k:aU c G L Y s) (n:G I=ah) (p:P 0 s.heap) (θ:nP Y bx ds) (w:aQ X (·=z) (kI r B t (gy bx ds) ns ds L Y dW)):
  oi (aN aC c.w) c.A (.forLoop (mT t e) (am I) E [] c.env) R s:=by
 refine codeAny_forLoop_any (fun j s=>∃i x N Q,j=ds.length-i∧H8 X c G r B t ds bx ns z I P s i x N Q) ?_ ds.length ⟨0,G,L,Y,rfl,cA _,w,.f,k,n,p,θ⟩;clear w k n p θ;refine fun j s q=>tL q ?_;clear q;intro i x N Q e q;subst e;have w:=q.w;by_cases ι:i=ds.length
 ·subst ι;rw[Sc] at w;have w:(a',N,Q)=z:=w;exact a.done q.l q.k q.n q.p q.a fun U=>Ek (h q.l.low (w▸q.k.but q.n U) (w▸rfl))
 ·have A:=rc q.le ι;rw[Q_ A] at w;refine a.next q.l q.k q.n q.p q.a (cS A) fun D C U=>(a.ty C).elim fun V u=>zr (a.ty C) ?_;have u:=u.elim fun T h=>h.1;have κ:=fun tk=>q.k.but q.n U (tk:=tk);have μ:bV af x (dt x I (.a V)):=jP q.n;refine vE π ((κ _).keep q.n u) ρ (D.mono μ.ld) (wS w) fun α w=>S α.k w fun ν β F w=> ?_;have M:=ν I (.a V) trivial (α.l I (.a V) trivial hX);have m:=β.rm ((κ 0).gb q.n) M;have γ:=q.l.same ((s6 (((μ.le fun _=>rfl).same (α.l.le fun _=>rfl)).same ν) q.n).le σ);have ξ {f5 δ ε ζ} (m:aU c _ δ ε ζ) (w:aQ X (·=z) (jK ns δ fun L=>.h (f5,L,ε))) {f} (F:∀{g},iG _ g→oW g f5 f):R (jJ f) ζ:=sF m w fun ο _ τ w=>h (γ.tr ο) ((show _=z from w)▸τ) ((show _=z from w)▸F ο.ld);rename_i f5 δ ε υ f ζ;induction f5 with
  |next=>rw[show f=h6 from F];exact zk a q.l A C u M β m γ w
  |cont=>rw[show f=.cont from F];exact zk a q.l A C u M β m γ w
  |o=>rw[show f=.brk from F];exact ξ m w fun _=>rfl
  |h d=>refine ay F fun v y D=> ?_;rw[y];exact ξ (f5:=.h d) m w fun l=>⟨v,rfl,(D.mono (sN M)).mono l⟩
end
section
variable{Y:ar}
structure MC (X:dT) (c:dr) (G:bN) (r:gv) (x:bt) (b:List ej) (ns:List Nat) (z:d1) (j:Nat) (s:ct) (g:bN) (L:au) (S:ar):Prop where
 w:aQ X (·=z) (l3 r x b ns dW j L S)
 l:bV ai G g
 k:aU c g L S s
theorem BX (l:bV ai G g) (k:aU c g L Y s) (w:aQ X (·=z) (jK ns L fun L=>l3 r x b ns dW j L Y)):∃m,m<j+1∧∃g a S,MC X c G r x b ns z m s g a S:=
 sF k w fun d _ e w=>⟨j,lO j,_,_,_,w,l.tr d,e⟩
theorem Ny (T:∀{Z},hI W X Z r) (Q:bj W c) (U:cb c.sc x E=af) (S:∀{Z G},rS X Z c bb G (r.ss b) (execs V c.env))
  (h:∀{f B g},bV ai G g→aU c g z.2.1 z.2.2 B→oW g z.1 f→R (jJ f) B) (k:aU c G L Y s) (w:aQ X (·=z) (l3 r x b ns dW j L Y)):oi (aN aC c.w) c.A (.whileLoop (bz x E) V [] c.env) R s:=by
 refine codeAny_whileLoop (fun j s=>∃C I M,MC X c G r x b ns z j s C I M) (fun j γ q=>Cg q fun C I M q=> ?_) j ⟨G,L,Y,w,.f,k⟩;induction j using ir with
 |zero=>exact q.w.elim
 |succ j=>
  refine T Q U q.k (wS q.w) fun p e w=> ?_;subst e;have N:=q.l.tr p.l;have i {m f5 n u A} (l:bV ai G m) (k:aU c m n u A) (w:aQ X (·=z) (jK ns n fun L=>.h (f5,L,u))) {f} (F:∀{g},iG m g→oW g f5 f):R (jJ f) A:=sF k w fun P _ α w=>h (l.tr P) ((show _=z from w)▸α) ((show _=z from w)▸F P.ld);rename_i t _ _ _ _;induction t with
  |false=>exact Ek (i (f5:=a') N p.k w fun _=>rfl)
  |true=>
   refine S p.k w fun β a F w=> ?_;rename_i f5 n u δ f A;have l:=N.tr β;induction f5 with
   |next=>rw[show f=h6 from F];exact BX l a w
   |cont=>rw[show f=.cont from F];exact BX l a w
   |o=>rw[show f=.brk from F];exact i (f5:=a') l a w fun _=>rfl
   |h d=>refine ay F fun v y D=> ?_;rw[y];exact i (f5:=.h d) l a w fun l=>⟨v,rfl,D.mono l⟩
end
variable{wn:bZ×Nat}
theorem JR:gp ".0"∉f0:=by decide+kernel
theorem IQ (h:x<f0.length):b_ x≠gp ".0":=fun e=>JR (e▸wv h)
theorem O9 {l:List (br×lV)}:(l.map (·.1)).Nodup→(x,k)∈l→l.lookup x=ac k:=by
 induction l with
 |nil=>exact fun _ h=>nomatch h
 |cons p r i=>
  intro n h;have n:=gn.mp n;refine ak fP ?_;rcases eS.mp h with e|e
  ·rw[←e,beq_self_eq_true]
  ·rw[beq_eq_false_iff_ne.mpr fun q=>n.1 (List.mem_map.mpr (bd _ e q))];exact i n.2 e
noncomputable def hV (e:od):List (br×lV)→List (br×bp)→List (br×bp)
 |[],a=>a
 |(x,k)::r,a=>if k==d' then hV e r ((x,(e.cells.lookup x).getD 0)::a) else hV e r a
theorem Gt:∀(n:List (br×lV)) (acc:List (br×bp)),(∀p∈n,p.2=d'→∃c,e.cells.lookup p.1=ac c)→
  (forIn n acc fun(x:br×lV) (cs:List (br×bp))=>(match x with|(name,d)=>if(d==d')=af then(do let a←cellOf e name;dm (nZ ((name,a)::cs))) else dm (nZ cs):h8 (ForInStep (List (br×bp)))))=dm (hV e n acc):=by
 intro n;induction n with
 |nil=>
  refine fun acc _=>ak List.forIn_nil ?_;rfl
 |cons X r i=>
  intro acc h;obtain⟨x,k⟩:=X;rw[D_];refine(?_:_=(dm (if k==d' then hV e r ((x,(e.cells.lookup x).getD 0)::acc) else hV e r acc):h8 _))
  by_cases g:k=d'
  ·subst g;obtain⟨c,j⟩:=h (x,d') kZ rfl;have b:cellOf e x=dm c:=by unfold cellOf;refine ak j ?_;rfl
   simp only[iX,if_true,b,j];exact i _ fun p f=>h p (je _ f)
  ·have b:(k==d')=false:=by simpa using g
   simp only[b,x1,if_false];exact i _ fun p f=>h p (je _ f)
theorem K' (h:∀p∈s.names,p.2=d'→∃c,e.cells.lookup p.1=ac c):closureFor s e=dm (hV e s.names []):=(show _=(dm (hV e s.names [])>>=fun C=>dm C) from aS (fun m=>m>>=fun C=>dm C) (Gt s.names [] h))
theorem Fp:∀{n:List (br×lV)} {acc:List (br×bp)},x∉n.map (·.1)→(hV e n acc).lookup x=acc.lookup x:=by
 intro n;induction n with
 |nil=>
  intro acc _;exact rfl
 |cons X r i=>
  intro acc h;obtain⟨y,k⟩:=X;rw[eE,eS,not_or] at h;refine(?_:(if k==d' then hV e r ((y,(e.cells.lookup y).getD 0)::acc) else hV e r acc).lookup x=_)
  split
  ·rw[i h.2,fP,c5.mpr h.1]
  ·exact i h.2
theorem Lb (a:E.cells.lookup x=ac c):∀{acc:List (br×bp)},(N.map (·.1)).Nodup→N.lookup x=ac d'→(hV E N acc).lookup x=ac c:=by
 induction N with
 |nil=>exact fun _ h=>nomatch h
 |cons p r i=>
  intro acc n h;have n:=gn.mp n;have h:=fP.symm.trans h;induction b:x==p.1 with
  |true=>
   rw[b] at h;refine(?_:(if p.2==d' then hV E r ((p.1,(E.cells.lookup p.1).getD 0)::acc) else hV E r acc).lookup x=ac c)
   rw[bD h,←dL.mp b,aJ (show(d'==d')=af from rfl),Fp (dL.mp b▸n.1),fP,iX,a];rfl
  |false=>
   rw[b] at h;exact dite (p.2==d') (fun e=>(aS (kj x) (aJ e)).trans (i n.2 h)) fun e=>(aS (kj x) (aL e)).trans (i n.2 h)
theorem HP {f:br→lV→lV}:∀(N:List (br×lV)) (x:br),(N.map fun p=>(p.1,f p.1 p.2)).lookup x=(N.lookup x).map (f x):=by
 intro N;induction N with
 |nil=>
  exact fun x=>rfl
 |cons X r i=>
  intro x;obtain⟨n,k⟩:=X;refine ak eE (ak fP (ak fP ?_));induction h:x==n with
  |true=>refine ak (dL.mp h) ?_;rfl
  |false=>exact i x
theorem Ly (s:gM) (e:od) (x:br):(yG s e).names.lookup x=(s.names.lookup x).map fun k=>if(k==d'&&e.scope.kind==k4&&e.kindOf x==ac gu) then gu else k:=by
 rw[←HP (f:=fun x k=>if(k==d'&&e.scope.kind==k4&&e.kindOf x==ac gu) then gu else k) s.names x]
 congr 1;refine RE fun p _=> ?_;obtain⟨n,k⟩:=p;dsimp only;split<;>rfl
structure xg (S s:gM) (t:eX):Prop where
 l:s.kind=k4
 C:fM t≠[]
 keys:(s.names.map (·.1)).Nodup
 nd:(fM t).Nodup
 tl:∀i∈fM t,fm s i=ac g6
 all:∀p∈s.names,(p.2=g6∧(p.1∈(fM t).map b_∨p.1=gp ".0"))∨(p.2=d'∧p.1∈f0∧(S.names.lookup p.1=ac gu∨S.names.lookup p.1=ac d'))∨p.2=pC
theorem Gk (h:vi s S t=af):xg s S t:=by
 unfold vi at h;have⟨h,b⟩:=bS.mp h;have⟨h,d⟩:=bS.mp h;have⟨h,f⟩:=bS.mp h;have⟨h,g⟩:=bS.mp h;have⟨j,a⟩:=bS.mp h;refine⟨dB j,fun e=>by rw[e] at a;exact cp a,dB g,dB f,fun i l=>dB (cH.mp d i l),fun p m=> ?_⟩;have:=cH.mp b p m;obtain⟨y,k⟩:=p;induction k<;>first|exact absurd this Bool.false_ne_true|skip
 ·exact .inl ⟨rfl,((Bool.or_eq_true ..).mp this).imp of_decide_eq_true of_decide_eq_true⟩
 ·have this:=Bool.and_eq_true_iff.mp this;exact .inr (.inl ⟨rfl,of_decide_eq_true this.1,((Bool.or_eq_true ..).mp this.2).imp of_decide_eq_true of_decide_eq_true⟩)
 ·exact .inr (.inr rfl)
section
variable{c:dr} {Y:ar}
noncomputable def dr.comp (c:dr) (s:gM) (t:eX) (C:bp):dr:={c with pl:=fun x=>if x∈fM t then hH C else c.pl x,sc:=s,env:=uy s (hV c.env s.names []) C c.env}
theorem lE (h:fm s x=ac k):s.names.lookup (b_ x)=ac k:=by
 unfold fm at h;rwa[aJ (kU h)] at h
theorem tP (a:x<f0.length) (h:s.names.lookup (b_ x)=ac k):fm s x=ac k:=by
 unfold fm;exact ak (aJ a) h
theorem La (k:bj wn c) (o:xg c.sc s t) (h:fm s x=ac d'):x∉fM t∧((fm c.sc x=ac gu∧c.env.kindOf (b_ x)=ac gu)∨fm c.sc x=ac d')∧∃a,c.env.cells.lookup (b_ x)=ac a∧c.pl x=gO a:=by
 refine⟨fun i=>(by have h:=o.tl x i▸h;cases h), ?_⟩;rcases o.all _ (hL (lE h)) with⟨q,_⟩|⟨_,_,q|q⟩|q
 ·injection q
 ·have e:=tP (kU h) q;exact⟨.inl ⟨e,(k.cell x e).1⟩,(k.cell x e).2⟩
 ·have e:=tP (kU h) q;exact⟨.inr e,(k.free x e).2⟩
 ·injection q
theorem Bk {a b:bp} (h:hH a=gO b):False:=cast (aS (fun p:xN=>xN.casesOn (motive:=fun _=>Prop) p (fun _=>True) fun _=>False) h) trivial
theorem bj.comp (m:bj wn c) (o:xg c.sc s t) (C:bp):bj wn (c.comp s t C):=by
 have w:∀x,(uy s (hV c.env s.names []) C c.env).kindOf x=(s.names.lookup x).map fun k=>if(k==d'&&c.env.scope.kind==k4&&c.env.kindOf x==ac gu) then gu else k:=fun x=>Ly s c.env x
 refine⟨m.r,o.l,m.v,m.B,fun x h=> ?_,fun x h=> ?_,fun x h=> ?_,fun y h=> ?_,fun x y a E F h g=> ?_,m.b,m.j,m.d⟩
 ·have h:fm s x=ac g6:=h;refine⟨(w _).trans (by rw[lE h];rfl),aJ ?_⟩;rcases o.all _ (hL (lE h)) with⟨_,q|q⟩|⟨q,_⟩|q
  ·refine ay (List.mem_map.mp q) fun i A e=> ?_;rw[←uK (kU (o.tl i A)) (kU h) e];exact A
  ·exact aR q (IQ (kU h))
  ·injection q
  ·injection q
 ·have h:=h;rcases o.all _ (hL (lE h)) with⟨q,_⟩|⟨q,_⟩|q<;>injection q
 ·have h:fm s x=some .free:=h;obtain⟨n,q,a,G,I⟩:=La m o h;refine⟨?_,a,Lb G o.keys (lE h),(if_neg n).trans I⟩;show(compEnvC s (hV c.env s.names []) C c.env).kindOf (b_ x)=_∨(compEnvC s (hV c.env s.names []) C c.env).kindOf (b_ x)=_;rw[w,lE h];dsimp only[Option.map_some];split
  ·exact .inl rfl
  ·exact .inr rfl
 ·have h:s.names.lookup y=some .globalImplicit:=h;exact(w _).trans (by rw[h];rfl)
 ·have e {z:Nat} (h:(if z∈fM t then xN.loc C else c.pl z)=.cell a):c.pl z=.cell a:=by
   by_cases D:z∈fM t
   ·rw[if_pos D] at h;exact(Bk h).elim
   ·rwa[if_neg D] at h
  exact m.sep x y a E F (e h) (e g)
theorem wG {C:bp} (h:x∉fM t):(c.comp s t C).pl x=c.pl x:=aL h
theorem aU.into (k:aU c G L Y s) {C:bp} (T:G C=ac eH) (h:∀x∈fM t,bG x L=ah):aU (c.comp S t C) G L Y s:=
 ⟨k.same,k.ok,k.solo,k.base,fun x=>by
  by_cases a:x∈fM t
  ·exact ak (show(c.comp S t C).pl x=hH C from aJ a) T
  ·refine ak (wG a) ?_;exact k.vis x,
  fun x l e=>(k.fr x l e).imp fun v y=>y.imp_left fun y=>(wG fun a=>nomatch(h x a).symm.trans e).symm▸y⟩
theorem aU.outof {C:bp} (k:aU (c.comp d t C) G L Y s) (v:∀x,match c.pl x with|.loc a=>G a=ac eH|.cell a=>G a=ac gP) (h:∀x∈fM t,bG x L=ah):aU c G L Y s:=
 ⟨k.same,k.ok,k.solo,k.base,v,fun x S e=>(k.fr x S e).imp fun v y=>y.imp_left fun y=>wG (fun b=>nomatch(h x b).symm.trans e)▸y⟩
end
section
variable{c:dr} {Y:ar}
theorem BV {K:au→aT} (k:aU c G L Y s) (w:aQ X Z (qS a L K)) {P:Prop} (q:∀{g b},bT af c G g b Y s→(∀x∈a,bG x b=ah)→aQ X Z (K b)→P):P:=by
 obtain⟨h,w⟩:=f6 w;refine qF (k.cut (q:=fun x=> !a.contains x) fun x p e=>((dK ..).mp (Br h e)).resolve_right cp) fun g l i n d=> ?_;exact q ⟨l,i,d⟩ (fun x f=>(vy (q:=fun x=> !a.contains x)).trans (aL fun z=>aR (ml z) (by refine ak (ee.mpr f) ?_;exact nofun))) w
theorem Gw {a:List c6} (q:Q ai s):aH (aN aC c.w) c.A (forIn a ai fun e r=>if r=af then do let o←lX e v (bO e v);dm (nZ o) else dm (nZ r)) Q E s:=by
 induction a with
 |nil=>exact bo q
 |cons e a i=>rw[D_];exact aG (bo i)
theorem JE (T:hI W X Z r) (o:bj W c) {i:List bt}:∀{a:List c6} {G:bN} {L:au} {Y:ar} {s:ct} {K:Bool→au→ar→aT} {Q:Bool→ct→Prop},eQ c.sc i a=af→aU c G L Y s→aQ X Z (Bp r i L Y K)→
  (∀{b l st' g S},bT ai c G g l st' S→aQ X Z (K b l st')→Q b S)→aH (aN aC c.w) c.A (forIn (dJ i a) af fun e r=>if r=af then do let o←lX e c.env (bO e c.env);dm (nZ o) else dm (nZ r)) Q E s:=by
 induction i with
 |nil=>exact fun _ k w q=>bo (q (.of k) w)
 |cons m M I=>
  intro a G L Y s K Q h k w q;obtain⟨d,f⟩:=bS.mp h;refine(?_:aH _ _ (forIn (bz m (a.headD fy)::dJ M a.tail) af _) Q E s);rw[D_];refine aG (aG (T o d k w fun p e w=>bo ?_));subst e;rename_i b _ _ _ _;induction b with
  |true=>exact I f p.k w fun P w=>q (p.tr P).low w
  |false=>exact Gw (q p.low w)
theorem Jj (I:Nat→ct→Prop)
  (T:∀n s,I n s→∀E:aV→ct→Prop,aH (aN aC c.w) c.A (uD i) (fun r S=>match r with
   |none=>R (jJ h6) S
   |some v=>aH (aN aC c.w) c.A (S0 t i v) (fun _ f=>aH (aN aC c.w) c.A (uE t b v) (fun _ g=>
     aH (aN aC c.w) c.A (forIn q af fun e r=>if r=af then do let o←lX e b (bO e b);dm (nZ o) else dm (nZ r)) (fun o d=>
      cond o (aH (aN aC c.w) c.A (bO u b) (fun x j=>aH (aN aC c.w) c.A (gN (bJ "list.append") [acc,x]) (fun _ k=>∃m,m<n∧I m k) E j) E d)
       (∃m,m<n∧I m d)) E g) E f) E S) E s)
  (n:Nat) (h:I n s):oi (aN aC c.w) c.A (.compLoop (pI u [⟨t,C,q,0⟩] D pos) 0 i acc b) R s:=by
 refine codeAny_loop rfl I (fun n s w=>(wpAny_noted ?_)) n h;rw[compTurn_list];refine aG (fw (aG (d9 (T n s w _) (fun r S l=> ?_) fun _ _ a=>a)));induction r with
 |none=>exact bo l
 |some v=>
  refine aG (d9 l (fun _ f y=>aG (d9 y (fun _ g z=>aG (d9 z (fun o d p=> ?_) fun _ _ a=>a)) fun _ _ a=>a)) fun _ _ a=>a);induction o with
  |false=>exact bo ⟨rfl,p⟩
  |true=>exact aG (aG (d9 p (fun x j A=>aG (d9 A (fun _ k B=>bo (bo ⟨rfl,B⟩)) fun _ _ a=>a)) fun _ _ a=>a))
structure xm (X:dT) (r:gv) (c:dr) (G:bN) (e:bt) (t:eX) (h:List bt) (F:d1) (ds:List aj) (I D:bp) (P:Nat→fT→Prop) (i:Nat) (s:ct) (g:bN) (L:au) (Y:ar) (us:List aV) (f:List aj):Prop where
 le:i≤ds.length
 p:bT ai c G g L Y s
 d:g I=ah
 b:g D=ah
 a:P i s.heap
 ho:∃n,s.heap.get? D=ac (d5 us n)
 dv:dy g f us
 len:f.length≤i
 w:∃K,(∀ws L Y,K ws L Y=dW (.h (.c (f++ws))) L Y)∧aQ X (·=F) (qe r e t h (ds.drop i) L Y K)
theorem aU.turn {C D:bp} {K:au→aT} (k:aU c G L Y s) (n:G I=ah) (N:G D=ah) (b:g I=ac (.a m)) (T:g D=ac (.a r)) (M:bV ai G g) (i:oR G g) (v:D≠I) (P:bT ai (c.comp α t C) g R U V S) (w:aQ X Z (qS (fM t) U K)) {Q:Prop}
  (q:∀{d y},iG R d→bT ai c G d y V S→d I=ah→d D=ah→S.heap.get? I=ac m→S.heap.get? D=ac r→aQ X Z (K y)→Q):Q:=by
 refine BV P.k w fun{β γ} p W w=> ?_;have l:=P.l.tr p.l;have b:=l I (.a m) trivial b;have T:=l D (.a r) trivial T;have A:=M.tr l;have j:=p.k.outof (fun x=>by have:=k.vis x;revert this;cases c.pl x<;>exact A.ls _ _ trivial) W;have F:=kC.mpr ⟨v.symm,b⟩;exact q (fun a u h e=>(sN F) a u h ((sN T) a u h (p.l.ld a u h e))) ⟨s6 (s6 A N) n,fun a f x e=>i a f x (P.h a f x (p.h a f x (kC.mp (kC.mp e).2).2)),(j.rm (k.gb N) T).rm (k.gb n) F⟩ tO ((aL v).trans tO) ((j.ok _ _ b).elim fun o z=>z.2▸z.1) ((j.ok _ _ T).elim fun o z=>z.2▸z.1) w
theorem A2 {D:bp}:oR G (dt (dt G I (.a o)) D (.a p)):=fun a f x e=>(gc e).elim (fun e=>nomatch e.2) fun e=>(gc e.2).elim (fun e=>nomatch e.2) fun e=>e.2
theorem bT.comp {C:bp} (p:bT b c g G L Y s) (T:G C=ac eH) (h:∀x∈fM t,bG x L=ah):bT b (c.comp S t C) g G L Y s:=⟨p.l,p.h,p.k.into T h⟩
def wo (X:dT) (r:gv) (c:dr) (G:bN) (e:bt) (t:eX) (a:List bt) (F:d1) (ds:List aj) (I D:bp) (P:Nat→fT→Prop) (j:Nat) (s:ct):Prop:=∃i g L S u d,j=ds.length-i∧xm X r c G e t a F ds I D P i s g L S u d
theorem wo.el {D:bp} {Q:Prop} (q:wo X r c G e t a F ds I D P j s) (h:∀i g L S us d,j=ds.length-i→xm X r c G e t a F ds I D P i s g L S us d→Q):Q:=q.elim fun i q=>MB q (h i)
theorem zR {D:bp} (h:i<ds.length) (q:xm X r c G e t f F ds I D P (i+1) s g L Y us n):∃m,m<ds.length-i∧wo X r c G e t f F ds I D P m s:=⟨_,RP h (lO i),i+1,_,_,_,_,_,rfl,q⟩
theorem L4 (R:∀{Z},b2 W X Z r) (T:∀{Z},hI W X Z r) (ε:bj W c) (o:xg c.sc S t) (a₃:cb S E a₄=af) (a₅:eQ S ζ a₆=af) {I D C:bp} (ο:ds.length≤b4) (a:D≠I) (A:kB c I G ds ah P) (a₇:G C=ac eH) {RR:Result→ct→Prop}
  (F:∀{η θ us n},bT ai c G θ l st' η→θ D=ah→η.heap.get? D=ac (d5 us n)→dy θ vs us→vs.length≤b4→RR (jJ h6) η) (π:xm X r c G E t ζ (.h (.c vs),l,st') ds I D P 0 s G L Y [] []):
  oi (aN aC c.w) c.A (.compLoop (pI (bz E a₄) [⟨mT t et,ei,dJ ζ a₆,0⟩] S pos) 0 (am I) (am D) (uy S (hV c.env S.names []) C c.env)) RR s:=by
 refine Jj (wo X r c G E t ζ (.h (.c vs),l,st') ds I D P) ?_ _ ⟨0,_,_,_,_,_,rfl,π⟩;clear π;refine fun j s q c₀=>q.el ?_;clear q;intro i g M u us d e q;subst e;have k:=q.p.k;refine q.ho.elim fun n β=>q.w.elim fun K w=>w.elim fun ι w=> ?_;by_cases ρ:i=ds.length
 ·subst ρ;rw[Sc] at w;have w:K [] M u=K [] M u∧aQ X (·=(.h (.c vs),l,st')) (K [] M u):=⟨rfl,w⟩;rw[ι,c8] at w;have w:(cR.h (.c d),M,u)=(cR.h (.c vs),l,st'):=w.2;have e:d=vs:=by have h:=aS (·.1) w;injection h with h;injection h
  exact A.done q.p.l k q.d q.a trivial fun B=>F ((show M=l from aS (·.2.1) w)▸(show u=st' from aS (·.2.2) w)▸⟨q.p.l,q.p.h,k.but q.d B⟩) q.b (B _ _ a β) (e▸q.dv) (e▸ao q.len ο)
 ·have z:=rc q.le ρ;rw[Q_ z] at w;refine A.next q.p.l k q.d q.a trivial (cS z) fun a₈ κ B=>(A.ty κ).elim fun Q γ=>zr (A.ty κ) ?_;have γ:=γ.elim fun T h=>h.1;have N:=q.d;have σ:dt g I (.a Q) D=none:=(hW a).trans q.b;have μ:bV af g (dt (dt g I (.a Q)) D (.a (d5 us n))):=(jP (b:=af) N).trans (jP σ);refine BV (((k.but N B (tk:=‹Nat›)).keep N γ).keep σ (B _ _ a β)) (wS w) fun{a₉ b₀} p b₁ w=> ?_;have τ:=μ.trans p.l;have p:bT af (c.comp S t C) _ a₉ b₀ u _:=p.comp (τ.ls _ _ trivial (q.p.l.ls _ _ trivial a₇)) b₁;refine vE (ε.comp o C) p.k (cH.mpr fun x b₂=>(dK ..).mpr (av (cu (o.tl x b₂)))) (a₈.mono τ.ld) w fun υ w=>JE T (ε.comp o C) a₅ υ.k w fun U w=> ?_;rename_i b c₁ b₃ c₂ c₃;have U:=(p.tr υ).tr U;have φ:dt (dt g I (.a Q)) D (.a (d5 us n)) I=ac (.a Q):=(hW a.symm).trans hX;have χ {h:fT} (V:h.get? I=ac Q):=A.keep κ (h':=h) fun c₄ ν=>(bD (γ.symm.trans ν))▸V;induction b with
  |false=>exact k.turn N q.b φ hX μ.low A2 a U.low (K:=fun L=>dW (.h (.c [])) L b₃) w fun ψ δ b₄ b₅ V α w=>zR z ⟨z,(q.p.tr δ).low,b₄,b₅,χ V,⟨n,α⟩,q.dv.mono δ.l.ld,rf q.len,_,fun ω=>ι ω,w⟩
  |true=>
   refine R (ε.comp o C) a₃ U.k w fun{c₅ c₆ c₇ c₈ v b₆} δ b₇ w=>k.turn N q.b φ hX μ.low A2 a (U.tr δ).low w fun{_ _} ψ a₀ b₈ a₁ V α w=> ?_;refine ob Dp (bd _ α rfl) Q5 (QZ _ _) (RO D us.toArray n v (by rw[d2,q.dv.len];exact jO (ao q.len (ao q.le ο)))) ⟨α, ?_⟩;have a₂:=nT b₆.heap D (uo fun y=>y.push v);have ξ:=(q.p.tr a₀).low;exact(s3 (f:=fun y=>y.push v) α (RY ..)).elim fun m b₉=>zR z ⟨z,⟨ξ.l,ξ.h,ξ.k.but a₁ fun b o ν β=>(a₂.2 b ν).trans β⟩,b₈,a₁,χ ((a₂.2 I a.symm).trans V),⟨m,b₉⟩,(cy (b₇.mono ψ) cI).app (q.dv.mono a₀.l.ld),by rw[bi];exact b3 q.len,_,fun ω L Y=>(ι _ L Y).trans (by rw[ef]),w⟩
end
section
variable{Y:ar}
def vp (c:dr) (E:aV→ct→Prop) (U:Option (aV→h8 Unit)) (Q:aV→ct→Prop) (a:aV) (C:bp) (s:ct):Prop:=match U with
 |none=>∃m,s.heap.Ns C m∧∀h M,h.Ns C M→hC C s.heap h→Q a {s with heap:=h}
 |some u=>aH (aN aC c.w) c.A (u a) (fun _ s=>∃m,s.heap.Ns C m∧∀h M,h.Ns C M→hC C s.heap h→Q dj {s with heap:=h}) E s
theorem PE
  (l:clausesOf e=g::gs) (B:∀x,SD g.iter v x=dm x) (D:closureFor S v=dm F) (d:S.kind=k4) (G:∀x∈S.names,x.2=g6→S.names.lookup x.1=ac g6)
  (h:aH (aN aC c.w) c.A f (fun x w=>aH (aN aC c.w) c.A (km x) (fun i y=>aH (aN aC c.w) c.A (newList []) (fun acc z=>
   aH (aN aC c.w) c.A (newFunctionEnv S v.globals F [] v.qual ah dj (ac v)) (fun C A=>
    oi (aN aC c.w) c.A (.compStart e 0 i acc {C with scope:=yG S v}) (fun r s=>r=jJ h6∧vp c E U Q acc C.locals s) A) E z) E y) E w) E s):
  aH (aN aC c.w) c.A (EI e S v pos (newList []) ai f U) Q E s:=by
 unfold EI;refine ak D (ak l ?_);refine aG (d9 h (fun x w I=>aG (fw (aG (ys (B x) (aG (eF (d9 I (fun i y L=>
  wpAny_standIf (aG (d9 L (fun acc z N=>aG (bo (aG (d9 N (fun C A P=> ?_) fun _ _ a=>a)))) fun _ _ a=>a)))
   fun _ _ a=>a))))))) fun _ _ a=>a)
 dsimp only
 have j:∀x∈(S.names.filter fun x=>(x.2==g6||x.2==gu)&&x.1!=(".0":br)).reverse,x.2=g6→
   Rr {C with scope:=yG S v} x.1=ac g6:=fun x k R=>lookup_relabel_local (G x (c_.mp (x8.mp k)).1 R)
 have T:∀x∈(S.names.filter fun x=>(x.2==g6||x.2==gu)&&x.1!=(".0":br)).reverse.drop 1++(S.names.filter fun x=>(x.2==g6||x.2==gu)&&x.1!=(".0":br)).reverse.take 1,
   x.2=g6→Rr {C with scope:=yG S v} x.1=ac g6:=fun x k=>(dD.mp k).elim (fun o=>j x (List.mem_of_mem_drop o)) fun o=>j x (List.mem_of_mem_take o)
 refine eF (aG (EG (eF (wpAny_run (codeAny_mono P fun r V b=> ?_)))));obtain⟨rfl,b⟩:=b;induction U with
 |none=>
  refine ay b ?_;clear b;intro m n b;exact aG (eF (SO d _ V m j n fun a M p q=>bo (b a M p q)))
 |some u=>
  exact aG (yw (aG (eF (d9 b (fun _ W t=>(ay t fun m n t=>(aG (SO d _ W m T n fun a M p q=>bo (t a M p q))))) fun _ _ a=>a))))
theorem kB.mono (i:kB c I G ds ah P) (l:bV ai G g):kB c I g ds ah P:=⟨i.ty,i.keep,fun L=>i.next (l.trans L),fun L=>i.self (l.trans L),fun L=>i.done (l.trans L)⟩
def pW (X x:dT) (l:Nat) (r:gv):Prop:=∀{p f L Y},X.sub (rJ l p) f L Y→aQ x (·=(f,L,Y)) (qe r p.a p.t p.b p.d p.L p.st fun v L Y=>dW (.h (.c v)) L Y)
theorem uU (B:en c.w mg mb) (R:b2 W X Z r) (a₀:∀{Z},b2 W μ Z r) (T:∀{Z},hI W μ Z r) (M:bj W c) (a₁:pW X μ a₂ r) (h:cb c.sc (dY ν t i ξ) e=af) (k:aU c G L Y s) {K:List aj→au→ar→aT} (w:aQ X Z (wM a₂ r ν t i ξ L Y K))
  (q:∀{ds D C l st' g γ us n},bT ai c G g l st' γ→g D=ah→g C=ac eH→(∀x,c.pl x≠hH C)→γ.heap.get? D=ac (d5 us n)→dy g ds us→ds.length≤b4→aQ X Z (K ds l st')→vp c E u Q (am D) C γ):
  aH (aN aC c.w) c.A (EI (bz (dY ν t i ξ) e) (mc e) c.env pos (newList []) ai (bO (bz i (bA 2 e)) c.env) u) Q E s:=by
 have h:=h;obtain⟨h,a₃⟩:=bS.mp h;obtain⟨h,a₄⟩:=bS.mp h;obtain⟨ο,δ⟩:=bS.mp h;have o:=Gk δ;have a₅:∀p∈(mc e).names,p.2=d'→∃a,c.env.cells.lookup p.1=ac a:=fun p F j=>by
  rcases o.all p F with⟨q,_⟩|⟨_,m,q⟩|q
  ·rw[q] at j;injection j
  ·obtain⟨x,y,e⟩:=List.mem_iff_getElem.mp m;have e:b_ x=p.1:=by unfold b_;exact ak (List.getElem?_eq_getElem y) e
   rw[←e] at q⊢;exact(q.elim (fun q=>(M.cell x (tP y q)).2) fun q=>(M.free x (tP y q)).2).imp fun _ h=>h.1
  ·rw[q] at j;injection j
 refine PE rfl (fun x=>(hO ο).fold _ x) (K' a₅) o.l (fun p F j=>O9 o.keys (by rw[←j];exact F)) (Bh B R M ο k w fun U w=> ?_);rename_i ds a₆ b₈ b₉ ε I S;induction a₆ with
 |some _=>exact w.elim
 |none=>
 refine ay w ?_;clear w;intro v a₇ w;refine(f6 w).elim fun a₈ w=> ?_;subst a₈;refine hR w ?_;clear w;intro f l st' y w;induction f with
 |h d=>
  induction d using aj.casesOn with
  |c V=>
   refine t7 (wpAny_newFunctionEnv (fun p F j=> ?_) (fun _ h=>(kh h).elim) (fun a₉ ζ α=> ?_) o.l)
   ·rcases o.all p F with⟨q,_⟩|⟨q,_⟩|q<;>rw[q] at j<;>injection j
   ·dsimp only at ζ α⊢;have k:=U.p.k;refine ay U.a fun P η π=>bK (η.ty π) fun c₀ _ ρ _=> ?_;generalize β:S.heap.push {cls:=bn "list",dict:=ah,data:=op ([]:List aV).toArray}=A at ζ α⊢;have θ:A.objs.size=S.heap.objs.size+1:=by rw[←β,yd]
    have σ:S.heap.objs.size≠A.objs.size:=by rw[θ];exact hZ (lO _)
    have τ:=fun b o e=>α.extBut b o (by rw[θ];exact hZ (px (ki e))) (iq _ (β▸iq _ e));have ι:=α.extBut _ _ σ (iq _ (β▸g4 _ rfl));have N:=k.free (xs (h':=A) fun b o e=>by rw[←β];exact iq _ e);refine hR (id ζ) fun b₀ b₁ b₂ b₃ b₄=> ?_;have κ:=(k.kp (h':=a₉) (tk:=S.toks+([]:List (br×aV)).length) fun b o _=>τ b o).tag (t:=eH) N b₃ ⟨_,fun h a e=>iO b₀ b₁ b₂ e b₄⟩ fun _ h=>h.elim;have υ:bV af ε (dt ε A.objs.size eH):=jP N;have b₅:I≠A.objs.size:=fun e=>aR (ki ρ) (by rw[e,θ];exact e7 (fQ _));have φ:dt ε A.objs.size eH I=none:=(hW b₅).trans U.free;have χ:=η.mono υ.low;have ψ:=η.keep π fun o δ=>τ I o δ
    have ω:=L4 (et:=bA 1 e) (ei:=bz i (bA 2 e)) (pos:=e.pos) a₀ T M o a₄ a₃ (dB (bD a₇)) (fun q=>aR (ki ρ) (by rw[q];exact gI _)) χ hX (RR:=fun r s=>r=jJ h6∧vp c E u Q (am S.heap.objs.size) A.objs.size s)
     (fun p b₆ ι b₇ z=>⟨rfl,q (((U.p.tr (bT.mk υ (fun a f x e=>(gc e).elim (fun e=>nomatch e.2) fun e=>e.2) κ)).low).tr p).low b₆ (p.l _ _ trivial hX) (fun x y=>by have:=k.vis x;rw[y] at this;exact nomatch N.symm.trans this) ι b₇ z w⟩)
     ⟨cA _,.of κ,φ,(hW σ).trans k.B,ψ,⟨0,ι⟩,cI,bv _,_,fun _ _ _=>rfl,a₁ y⟩
    exact codeAny_compStart_list ω (χ.self .f κ φ ψ ω)
  |_=>exact w.elim
 |_=>exact w.elim
theorem aU.nsC (k:aU c G L Y s) {C:bp} (t:G C=ac eH) (n:∀x,c.pl x≠hH C) (f:h'.Ns C M) (b:hC C s.heap h'):aU c G L Y {s with heap:=h'}:=by
 refine hR (id f) fun o g p d z=>k.step (h':=h') (fun _ _ _ h=>h) k.base (fun a u e=> ?_) k.solo fun x S e=>(k.fr x S e).imp fun v y=>y.imp_left fun y=>y.imp_right fun y=> ?_
 ·by_cases h:a=C
  ·subst h;have e:=t▸e;injection e with e;subst e;exact av ⟨o,d,_,fun h a e=>iO o g p e z⟩
  ·exact aI ⟨e,fun o d=>(b.2 a h).trans d,.f fun _ _ _ h=>h⟩
 ·revert y
  induction i:c.pl x with
  |loc a=>exact fun y=>y.imp_right fun y=>y.imp fun m y=>y.imp_left fun y=>y.sameBut b fun e=>n x (e▸i)
  |cell a=>exact fun y=>⟨y.1,y.2.sameBut b (by rintro rfl;have t:=y.1▸t;cases t)⟩
theorem aU.data (k:aU c G L Y s) (n:G a=ah) (b:s.heap.get? a=ac o) (r:cQ c.w G o d):bT af c G (dt G a (.d d o)) L Y s∧ha (dt G a (.d d o)) d (am a):=
 ⟨⟨jP n,fun a f x e=>(gc e).elim (fun e=>nomatch e.2) fun e=>e.2,k.tag n b ⟨rfl,r⟩ fun _ h=>h.elim⟩,_,_,rfl,hX⟩
theorem PH (B:en c.w mg mb) (R:b2 W X Z r) (g:∀{Z},b2 W x Z r) (j:∀{Z},hI W x Z r) (y:bj W c) (A:pW X x l r) (h:cb c.sc (dY a t i I) e=af):dq X Z c ai G a8 (qM T l r (dY a t i I)) (bO (bz (dY a t i I) e) c.env):=by
 intro L Y s U Q E k w q;refine(?_:aH _ _ (bO (pI (bz a (bA 0 e)) [⟨mT t (bA 1 e),bz i (bA 2 e),dJ I ((ep e).drop 3),0⟩] (mc e) e.pos) c.env) Q E s);rw[eval_ListComp];refine uU B R g j y A h k w fun p N C n D v z w=> ?_;obtain⟨o,F,m,P⟩:=p.k.ok _ _ C;refine bd m (P _ _ F) (fun V M S b=> ?_);have f:=p.k.nsC C n S b;have u:=f.data (d:=.c _) N ((b.2 _ (by rintro rfl;rw[N] at C;injection C)).trans D) (er _ _ rfl v (jO z));exact q (d:=.c _) ((bT.mk p.l p.h f).tr u.1) u.2 w
end
open scoped Classical
section
variable{Y:ar}
theorem lf {b:Bool} (w:aQ X Z (cond b x y)):(b=af∧aQ X Z x)∨aQ X Z y:=by
 induction b with
 |true=>exact av ⟨rfl,w⟩
 |false=>exact aI w
theorem wZ (B:en c.w mg mb) (b:bj w c) (k:aU c G L Y s) (d:mV c.sc (ed g)=af) (f:(g,fv)∈mN) (e:(∃i,fv=bJ i)∨∃T,fv=bn T) (o:cb c.sc a ea=af)
  (h:aH (aN aC c.w) c.A (bO (bz a ea) c.env) (fun v S=>aH (aN aC c.w) c.A (gN fv [v]) Q E S) E s):aH (aN aC c.w) c.A (bO (i1 (ey (ed g) p') [bz a ea] [] pos) c.env) Q E s:=
 sT B b k d f e (Ba (hO o)) rfl (m5 (d9 h (fun _ _ h=>pG h) fun _ _ h=>h))
theorem G9 (B:en c.w mg mb) (R:b2 n X Z r) (u:bj n c) (δ:mV c.sc (ed g)=af) (o:cb c.sc a ea=af):dq X Z c ai G a8 (vr r g [a]) (bO (i1 (ey (ed g) p') [bz a ea] [] pos) c.env):=by
 intro L Y s x Q E k w q
 have C {fv:aV} {x:fN→au→ar→aT} (f:(g,fv)∈mN) (I:(∃i,fv=bJ i)∨∃T,fv=bn T) (w:aQ X Z (f2 r a L Y fun c L Y=>i3 c L Y fun q=>x q L Y)) (h:∀{A l F v S y},bT ai c G A l F y→jw c.w A y.heap v S→aQ X Z (x S l F)→aH (aN aC c.w) c.A (gN fv [v]) Q E y):aH (aN aC c.w) c.A (bO (i1 (ey (ed g) p') [bz a ea] [] pos) c.env) Q E s:=
  wZ B u k δ f I o (lb R u o k w fun p ε w=>by
   refine ay (sW w) fun q j w=> ?_;exact h p.low (rK p.k ε (bT.of p.k) (fun _=>rfl) j) w)
 have M {fv:aV} {x:aj→au→ar→aT} (f:(g,fv)∈mN) (I:(∃i,fv=bJ i)∨∃T,fv=bn T) (w:aQ X Z (r.e a L Y x)) (h:∀{A l F d v y},bT ai c G A l F y→a8 A d v→aQ X Z (x d l F)→aH (aN aC c.w) c.A (gN fv [v]) Q E y):aH (aN aC c.w) c.A (bO (i1 (ey (ed g) p') [bz a ea] [] pos) c.env) Q E s:=
  wZ B u k δ f I o (R u o k w fun p d w=>h p.low d w)
 rcases lf w with⟨j,W⟩|W
 ·have j:=Nat.eq_of_beq_eq_true j;refine C (fv:=.builtin "len") (j▸by decide) (.inl ⟨_,rfl⟩) W fun p S w=>ay w ?_;clear w;intro d m w;obtain⟨z,j⟩:=du m;injection j with j;subst j;exact OY p.k S z fun t ζ=>q (d:=ae _) ⟨p.l,p.h,p.k.tok ζ⟩ ⟨t,rfl⟩ w
 rcases lf W with⟨j,N⟩|N
 ·have j:=Nat.eq_of_beq_eq_true j;refine C (fv:=.builtin "sorted") (j▸by decide) (.inl ⟨_,rfl⟩) N fun{_ _ _ _ S _} p U w=> ?_;induction S with
  |e ι=>
   refine ay w ?_;clear w;intro d m w;exact Mp u p.k U m fun P D=>q (p.tr P).low D w
  |_=>exact w.elim
 rcases lf N with⟨j,V⟩|V
 ·have j:=Nat.eq_of_beq_eq_true j;refine M (fv:=.builtin "all") (j▸by decide) (.inl ⟨_,rfl⟩) V fun{_ _ _ d _ _} p D w=> ?_;induction d using aj.casesOn with
  |c η=>
   refine ay w ?_;clear w;intro b θ w;exact Kj u p.k D θ fun k=>q (d:=aA b) ⟨p.l,p.h,k⟩ rfl w
  |_=>exact w.elim
 rcases lf V with⟨j,α⟩|α
 ·have j:=Nat.eq_of_beq_eq_true j;refine M (fv:=.type "str") (j▸by decide) (.inr ⟨_,rfl⟩) α fun p D w=>ay w ?_;clear w;intro d m w;exact M9 p.k m D fun k D=>q ⟨p.l,p.h,k⟩ D w
 rcases lf α with⟨j,β⟩|β
 ·have j:=Nat.eq_of_beq_eq_true j;refine M (fv:=.type "int") (j▸by decide) (.inr ⟨_,rfl⟩) β fun p D w=>ay w ?_;clear w;intro d m w;exact Lg p.k m D fun k D=>q ⟨p.l,p.h,k⟩ D w
 rcases lf β with⟨j,γ⟩|γ
 ·have j:=Nat.eq_of_beq_eq_true j;refine C (fv:=.type "tuple") (j▸by decide) (.inr ⟨_,rfl⟩) γ fun{_ _ _ _ S _} p U w=> ?_;induction S with
  |c η=>exact GP p.k U fun P D=>q (p.tr P).low D w
  |_=>exact w.elim
 exact γ.elim
theorem KB (B:en c.w mg mb) (R:b2 n X Z r) (i:bj n c) (h:mV c.sc (ed g)=af) (o:eQ c.sc f l=af):dq X Z c ai G a8 (vr r g f) (bO (i1 (ey (ed g) p') (dJ f l) [] pos) c.env):=by
 intro L Y s y Q E k w q;induction f using cn with
 |nil=>exact w.elim
 |cons a f=>
  obtain⟨j,t⟩:=bS.mp o;induction f using cn with
  |nil=>exact G9 B R i h j k w q
  |cons b f=>
   have m:=(bS.mp t).1;induction f using cn with
   |cons _ _=>exact w.elim
   |nil=>
    rcases lf w with⟨e,W⟩|W
    ·cases Nat.eq_of_beq_eq_true e;refine sT B i k h (fv:=.builtin "max") (by decide) (.inl ⟨_,rfl⟩) (De (hO j) (hO m)) rfl (spliced_cons (R i j k W fun p d w=>spliced_cons (R i m p.k w fun P D w=>spliced_nil (ay w ?_))));clear w;intro v u w;exact F7 i P.k u (d.mono P.l.ld) D fun k x=>q ⟨(p.tr P).low.l,(p.tr P).h,k⟩ x w
    ·exact W.elim
end
open scoped Classical
section
variable{c:dr} {Y:ar}
noncomputable def dO (ts:List (h8 aV)):List (Bool×h8 aV):=ts.map fun t=>(ai,t)
theorem vw:∀{ts:List (h8 aV)},(dO ts).any (·.1)=ai∧(dO ts).all (fun x=> !x.1)=af
 |[]=>⟨rfl,rfl⟩
 |_::r=>vw (ts:=r)
theorem xc:∀{E:List bt} {l:List c6},eQ s E l=af→∃ts,gL pos (gt (dJ E l) v)=dO ts:=by
 intro E;induction E with
 |nil=>
  intro _ _;exact⟨[],rfl⟩
 |cons m E i=>
  intro l h;obtain⟨a,b⟩:=bS.mp h;obtain⟨ts,e⟩:=i b;refine⟨bO (bz m (l.headD fy)) v::ts, ?_⟩;show gL pos (gt (bz m (l.headD fy)::dJ E l.tail) v)=_;rw[(hO a).a];exact aS _ e
theorem vt (h:aH (aN aC c.w) c.A (lW (dO ts)) (fun vs S=>Q ⟨vs,[]⟩ S) E s):aH (aN aC c.w) c.A (evalArgs f af (dO ts) []) Q E s:=by
 induction ts using cn with
 |nil=>exact aG (d9 h (fun vs S a=>aG (bo (eF (aG (bo (aG (bo (bo a)))))))) fun _ _ x=>x)
 |cons t ts=>exact Eu h
theorem O2 (b:∀w,yl o name c.env w=w) (f:(A.endLine==pos.line)=af) (n:a.length<20) (t:gL pos (gt a c.env)=dO ts)
  (h:aH (aN aC c.w) c.A (bO o c.env) (fun v S=>∀P,aH (aN aC c.w) c.A (m6 v name P) (fun p d=>aH (aN aC c.w) c.A (kl pos p.1 p.2 (dO ts) []) Q E d) E S) E s):
  aH (aN aC c.w) c.A (bO (i1 (iu o name A) a [] pos) c.env) Q E s:=by
 rw[arm_eval_Call,b];refine aG (d9 h (fun v S g=>(aG (fw ?_))) fun _ _ e=>e);have m:methodCallForm (a.length+([]:List Keyword).length) (dO ts) (backToKw pos (keywordEach [] c.env))=true:=by
  show((dO ts).all (fun x=> !x.1)&&af&&aM (a.length+0+0<30))=af;rw[vw.2,cu (show a.length+0+0<30 from ft n (by decide))];rfl
 have i:methodCallPos af o c.env A pos=dm pos:=by unfold methodCallPos;refine ak f ?_;rfl
 unfold methodCall;exact ak t (ak m (aG (eF (d9 (g _) (fun p d j=>aG (ys i j)) fun _ _ e=>e))))
theorem vz {i:String} {a:bp} (f:s.heap.get? a=ac o) (g:o.cls=bn T) (d:o.dict=ah) (P:PlainAttrs T) (sl:SS T name i) (t:typeOf (bJ i)=dm (bn "method_descriptor"))
  (h:aH (aN aC c.w) c.A (lW (dO ts)) (fun vs S=>aH (aN aC c.w) c.A (gN (bJ i) (am a::vs)) Q E S) E s):
  aH (aN aC c.w) c.A (m6 (am a) name l) (fun p j=>aH (aN aC c.w) c.A (kl pos p.1 p.2 (dO ts) []) Q E j) E s:=
 getMethod_builtin (bd o f g) P sl t (fun b e=>by injection e with e;subst e;exact⟨o,f,d⟩) (SU vw.1 (vt h))
theorem BM:cW 2=gp "pop"∧cW 3=gp "append"∧cW 4=gp "extend"∧cW 6=gp "reverse"∧cW 5=gp "get":=by decide+kernel
theorem L5 (h:qx n=af):n=2∨n=3∨n=4∨n=6:=((dK ..).mp h).imp jd fun h=>((dK ..).mp h).imp jd fun h=>((dK ..).mp h).imp jd jd
theorem tM (h:qx n=af):SS "list" (cW n) (v8 n)∧typeOf (bJ (v8 n))=dm (bn "method_descriptor"):=by
 refine i6 BM fun a A b d _=> ?_;rcases L5 h with rfl|rfl|rfl|rfl
 ·exact ak a (⟨PySem.F.slot_list_pop,PySem.F.type_list_pop⟩)
 ·exact ak A (⟨PySem.F.slot_list_append,PySem.F.type_list_append⟩)
 ·exact ak b (⟨PySem.F.slot_list_extend,PySem.F.type_list_extend⟩)
 ·exact ak d (⟨PySem.F.slot_list_reverse,PySem.F.type_list_reverse⟩)
theorem xO (B:bj w c) (k:aU c G L Y s) {a:bp} (N:∀o,G a≠ac (.a o)) (C:s.heap.get? a=ac o) (r:cQ c.w G o (.e j)) (e:(ow key j d).e=ac v) (I:a8 G key vk) (F:(vs=[]∧d=a4)∨∃u,vs=[u]∧a8 G d u)
  (h:∀{V t},a8 G v V→Q V {s with toks:=t}):aH (aN aC c.w) c.A (gN (bJ "dict.get") (am a::vk::vs)) Q E s:=by
 refine(du e).elim fun M l=> ?_;injection l with l;subst l;have n:=k.nmod N;have T:=(r0 k C r).1;refine nE k C r M I (fun i t A p y q m=> ?_) fun x b A p y q m i=> ?_
 ·subst p y;have g {u:aV} (D:a8 G d u):a8 G ((f1 (ae i) j).getD d) ((valueAt A i).getD u):=by
   unfold valueAt;rcases q.get q7 i with⟨g,f⟩|⟨P,v,g,f,z⟩<;>(refine ak g ?_;refine ak f ?_)
   ·exact D
   ·exact z
  rcases F with⟨rfl,rfl⟩|⟨u,rfl,D⟩
  ·exact call_meetsIn PySem.F.slot_dict_get T PySem.F.entry_dict_get (PySem.F.args_dict_get_2 _ _) (meets_dict_get (md c.w) a (intKind_is aC c.w i t) n) (bd _ m.mapOf (h (g rfl)))
  ·exact call_meetsIn PySem.F.slot_dict_get T PySem.F.entry_dict_get (PySem.F.args_dict_get_3 _ _ _) (meets_dict_get_default (md c.w) a (intKind_is aC c.w i t) n u) (bd _ m.mapOf (h (g D)))
 ·subst p y;have g {u:Value} (D:a8 G d u):a8 G ((f1 x.1 j).getD d) (((atKey A x).map (·.2)).getD u):=by
   unfold atKey;rcases q.get mQ x with⟨g,f⟩|⟨P,v,g,f,z⟩<;>(refine ak g ?_;refine ak f ?_)
   ·exact D
   ·exact z.2
  rcases F with⟨rfl,rfl⟩|⟨u,rfl,D⟩
  ·exact call_meetsIn PySem.F.slot_dict_get T PySem.F.entry_dict_get (PySem.F.args_dict_get_2 _ _) (meetsH_dict_get (g0 c.w) a b n) ⟨B.rm,x,A,i,m,h (g rfl)⟩
  ·exact call_meetsIn PySem.F.slot_dict_get T PySem.F.entry_dict_get (PySem.F.args_dict_get_3 _ _ _) (meetsH_dict_get_default (g0 c.w) a b n u) ⟨B.rm,x,A,i,m,h (g D)⟩
theorem PL (R:b2 W X Z r) (o:bj W c) (h:cb c.sc (.u a n b) e=af) (k:aU c G L Y s) (w:aQ X Z (f2 r a L Y f))
  (q:∀{z l st' g v S ts P},bT a.simple c G g l st' S→ly g z v→eQ c.sc b (ep e).tail=af→gL e.pos (gt (dJ b (ep e).tail) c.env)=dO ts→aQ X Z (f z l st')→aH (aN aC c.w) c.A (m6 v (cW n) P) (fun p j=>aH (aN aC c.w) c.A (kl e.pos p.1 p.2 (dO ts) []) Q E j) E S):
  aH (aN aC c.w) c.A (bO (bz (.u a n b) e) c.env) Q E s:=by
 have h:=h;obtain⟨h,d⟩:=bS.mp h;obtain⟨h,m⟩:=bS.mp h;obtain⟨h,u⟩:=bS.mp h;obtain⟨x,i⟩:=bS.mp h;obtain⟨ts,t⟩:=xc d;exact O2 (fun _=>CD x i) u (by refine ak Lt ?_;exact dB m) t (lb R o i k w fun p C w P=>q p C d t w)
theorem r3 (R:b2 W X Z r) (o:bj W c) (h:eQ c.sc a l=af) (e:gL pos (gt (dJ a l) c.env)=dO ts):dq X Z c (lx a) G (fun G ds vs=>dy G ds vs∧ds.length=a.length) (g2 r a) (lW (dO ts)):=by
 intro L Y s b Q E k w q;exact ak (cB e) (th R o h k w q)
theorem PK (R:b2 W X Z r) (γ:bj W c) (h:eQ c.sc z l=af) (e:gL pos (gt (dJ z l) c.env)=dO ts) {K:aj→au→ar→aT} {v:aV} (k:aU c G L Y s) (δ:ly G (g9 x) v) (w:aQ X Z (vu r x n z L Y K))
  (q:∀{d I st' M v S},bT (lx z) c G M I st' S→a8 M d v→aQ X Z (K d I st')→Q v S):aH (aN aC c.w) c.A (m6 v (cW n) P) (fun p N=>aH (aN aC c.w) c.A (kl p' p.1 p.2 (dO ts) []) Q E N) E s:=by
 unfold vu at w;induction A:gV x L with
 |none=>have w:=A▸w;exact w.elim
 |some ε=>
  rw[A] at w;induction ε with
  |e _=>exact w.elim
  |c π=>
   refine bK δ fun a f y t=> ?_;subst y;obtain⟨ζ,o,η,V,m,rfl,_⟩:=k.slAt t A;rcases lf w with⟨U,w⟩|w
   ·refine vz η rfl rfl PySem.F.plainAttrs_list (tM U).1 (tM U).2 (r3 R γ h e k w fun p D w=> ?_);rename_i θ j α ρ σ N;have w:aQ X Z (match gV x j with
     |some c=>aT.c (.u n c θ) fun d c=>match jt x c j with
      |some L=>K d L α
      |none=>.a
     |none=>.a):=w
    induction u:gV x j with
    |none=>have w:=u▸w;exact w.elim
    |some τ=>
     rw[u] at w;refine bK w ?_;clear w;intro d C ι w;obtain⟨F,g⟩:=nQ u;refine ay (p.k.peek g) fun b _ T=> ?_;have β:=p.h _ _ _ T;obtain⟨_,_,_,i,_⟩:=k.ok _ _ β;rw[ζ] at i;obtain⟨rfl,_⟩:=kG (bD i);cases k.solo _ _ (bQ f x) trivial t β;refine ay ((p.k.slAt T u).2) fun υ κ μ=> ?_;have w:aQ X Z (match jt x C j with|some L=>K d L α|none=>.a):=w
     induction B:jt x C j with
     |none=>have w:=B▸w;exact w.elim
     |some φ=>
      rw[B] at w;cases vh g B;exact By p.k ι κ μ D.1 fun v χ ψ ω D ν ξ ο=>q ⟨p.l,p.h,p.k.poke T g ν ξ ο⟩ D w
   ·exact w.elim
theorem BH (R:b2 W X Z r) (m:bj W c) (h:eQ c.sc f l=af) (e:gL pos (gt (dJ f l) c.env)=dO ts) {a:bp} {K:List aj→au→ar→aT} (k:aU c G L Y s) (i:s.heap.get? a=ac o) (n:cQ c.w G o (.e u)) (w:aQ X Z (g2 r f L Y K))
  (q:∀{ds j st' g vs S},bT (lx f) c G g j st' S→dy g ds vs→aQ X Z (K ds j st')→aH (aN aC c.w) c.A (gN (bJ "dict.get") (am a::vs)) Q E S):aH (aN aC c.w) c.A (m6 (am a) (cW 5) P) (fun p t=>aH (aN aC c.w) c.A (kl p' p.1 p.2 (dO ts) []) Q E t) E s:=by
 refine dM (r0 k i n) fun y d _=>ay y fun v b T=> ?_;rw[i] at b;injection b with b;subst b;exact ak BM.2.2.2.2 (vz i T d PySem.F.plainAttrs_dict tW PySem.F.type_dict_get (r3 R m h e k w fun p D w=>q p D.1 w))
end
open scoped Classical
section
variable{Y:ar}
theorem LA (R:b2 W X Z r) (F:bj W c) (h:eQ c.sc b l=af) (e:gL pos (gt (dJ b l) c.env)=dO ts) {K:aj→au→ar→aT} {a:bp} (k:aU c G L Y s) (t:G a=ac (cJ j x)) (f:lx b=af) (I:dR j x Y=ac (.c ζ)) (y:qx n=af)
  (w:aQ X Z (g2 r b L Y fun ds L Y=>match dR j x Y with
   |some c=>aT.c (.u n c ds) fun d c=>match gk j x (b1 c) Y with
    |some Y=>K d L Y
    |none=>.a
   |none=>.a))
  (q:∀{d z st' g v A},bT af c G g z st' A→a8 g d v→aQ X Z (K d z st')→Q v A):aH (aN aC c.w) c.A (m6 (am a) (cW n) P) (fun p B=>aH (aN aC c.w) c.A (kl p' p.1 p.2 (dO ts) []) Q E B) E s:=by
 obtain⟨_,o,M,V,m,rfl,_⟩:=k.box t I;refine vz M rfl rfl Q6 (tM y).1 (tM y).2 (r3 R F h e k w fun p D w=> ?_);rename_i ds N S η θ B;induction i:dR j x S with
 |none=>have w:=i▸w;exact w.elim
 |some ι=>
  rw[i] at w;refine bK w ?_;clear w;intro d C U w;have P:=f▸p.l;have T:=P a (cJ j x) (av rfl) t;obtain⟨α,κ,β,γ⟩:=p.k.box T i;have w:aQ X Z (match gk j x (b1 C) S with|some Y=>K d N Y|none=>.a):=w
  induction u:gk j x (b1 C) S with
  |none=>have w:=u▸w;exact w.elim
  |some μ=>
   have w:=u▸w;exact By p.k U β γ D.1 fun v ν ξ ο D f δ ε=>q ⟨P,p.h,p.k.pokeB T α f δ ε (ql u)⟩ D w
theorem Qx (R:b2 W X Z r) (f:bj W c) (h:eQ c.sc m l=af) (e:gL pos (gt (dJ m l) c.env)=dO ts) {K:aj→au→ar→aT} {a:bp} (k:aU c G L Y s) (t:G a=ac (cJ j x)) (A:lx m=af)
  (w:aQ X Z (vQ r j x n m L Y K)) (q:∀{d B st' g v S},bT af c G g B st' S→a8 g d v→aQ X Z (K d B st')→Q v S):aH (aN aC c.w) c.A (m6 (am a) (cW n) P) (fun p F=>aH (aN aC c.w) c.A (kl p' p.1 p.2 (dO ts) []) Q E F) E s:=by
 unfold vQ at w;induction i:dR j x Y with
 |none=>have w:=i▸w;exact w.elim
 |some C=>
  rw[i] at w;induction C with
  |c θ=>
   rcases lf w with⟨b,w⟩|w
   ·exact LA R f h e k t A i b w q
   ·exact w.elim
  |e ι=>
   obtain⟨b,w⟩:=f6 w;have b:=iv b;subst b;obtain⟨_,o,α,β⟩:=k.box t i;refine BH R f h e k α β w fun p D w=> ?_;rename_i γ κ δ ε V F;have P:=A▸p.l;have T:=P a (cJ j x) (av rfl) t;induction u:dR j x δ with
   |none=>rw[u] at w;induction γ<;>exact w.elim
   |some ζ=>
    rw[u] at w;induction ζ with
    |c _=>exact w.elim
    |e μ=>
     obtain⟨_,ν,I,M⟩:=p.k.box T u;have N:∀o,ε a≠ac (.a o):=fun o e=>by have e:=T▸e;cases e
     cases D with
     |nil=>exact w.elim
     |cons U y=>cases y with
      |nil=>
       refine ay w ?_;clear w;intro v z w;exact xO f p.k N I M z U (av ⟨rfl,rfl⟩) fun D=>q ⟨P,p.h,p.k.tok _⟩ D w
      |cons η y=>cases y with
       |nil=>
        refine ay w ?_;clear w;intro v z w;exact xO f p.k N I M z U (aI (bd _ rfl η)) fun D=>q ⟨P,p.h,p.k.tok _⟩ D w
       |cons _ _=>exact w.elim
theorem KN (R:b2 W X Z r) (i:bj W c) (h:eQ c.sc b l=af) (e:gL pos (gt (dJ b l) c.env)=dO ts) {K:aj→au→ar→aT} (k:aU c G L Y s) (D:a8 G (.e m) v)
  (w:aQ X Z (g2 r b L Y fun ds L Y=>match ds with
   |[key,d]=>e_ (ow key m d) fun d=>K d L Y
   |_=>.a)) (q:∀{d j st' g v S},bT (lx b) c G g j st' S→a8 g d v→aQ X Z (K d j st')→Q v S):aH (aN aC c.w) c.A (m6 v (cW 5) P) (fun p n=>aH (aN aC c.w) c.A (kl p' p.1 p.2 (dO ts) []) Q E n) E s:=by
 refine bK D fun a o y t=> ?_;subst y;refine eB (k.ok _ _ t) fun I u y x=> ?_;subst y;refine BH R i h e k u x w fun p D w=> ?_;have T:=p.l a (.d _ _) trivial t;refine eB (p.k.ok _ _ T) fun M z y A=> ?_;subst y;cases D with
 |nil=>exact w.elim
 |cons B f=>cases f with
  |nil=>exact w.elim
  |cons C f=>cases f with
   |cons _ _=>exact w.elim
   |nil=>
    refine ay w ?_;clear w;intro v F w;exact xO i p.k (fun o e=>by have e:=T▸e;cases e) z A F B (aI ⟨_,rfl,C⟩) fun D=>q ⟨p.l,p.h,p.k.tok _⟩ D w
end
structure mB (w:bZ) (S:ct) (G:bN) (L:au) (Y:ar) (s:ct):Prop where
 same:∃h tk,s={S with heap:=h,toks:=tk}
 ok:∀a t,G a=ac t→∃o,s.heap.get? a=ac o∧ku w G Y L o t
 solo:∀a b t,ox t→G a=ac t→G b=ac t→a=b
 base:bV ai (d6 w) G
noncomputable def fV (t:fl):Bool:=match t with
 |.ns=>af
 |.cell=>af
 |.slot _ _=>af
 |_=>ai
noncomputable abbrev r8:=List (Nat×Nat)
noncomputable def iI (R:r8) (h:fT) (G:bN):bN:=fun a=>match G a with
 |none=>ah
 |some t=>cond (fV t) (match t with
  |.slot l x=>(match R.lookup x with
   |some p=>ac (bQ af p)
   |none=>(h.get? a).map .a)
  |_=>(h.get? a).map .a) (ac t)
noncomputable def ju (G g:bN):bN:=fun a=>cond ((G a).any fV) (G a) (cond ((g a).any fV) ah (g a))
section
theorem tp (e:G a=ac t) (n:fV t=ai):iI R h G a=ac t:=by unfold iI;refine ak e ?_;dsimp only;refine ak n ?_;rfl
theorem sE (e:iI R h G a=ac t):(fV t=ai∧G a=ac t)∨(∃o u,t=.a o∧h.get? a=ac o∧G a=ac u∧fV u=af)∨∃p l x,t=bQ af p∧G a=ac (bQ l x)∧R.lookup x=ac p:=by
 unfold iI at e;induction g:G a with
 |none=>rw[g] at e;injection e
 |some u=>
  rw[g] at e;have k (b:fV u=af) (e:(h.get? a).map .a=ac t):∃o v,t=.a o∧h.get? a=ac o∧ac u=ac v∧fV v=true:=by
   refine ay (dg.mp e) fun o c y=> ?_;subst y;exact hK o u rfl c rfl b
  induction u with
  |ns=>exact aI (av (k rfl e))
  |cell=>exact aI (av (k rfl e))
  |slot l x=>
   have e:(match R.lookup x with|some p=>ac (bQ af p)|none=>(h.get? a).map .a)=ac t:=e
   induction r:R.lookup x with
   |none=>have e:=r▸e;exact aI (av (k rfl e))
   |some p=>rw[r] at e;injection e with e;subst e;exact aI (aI (mx p l x rfl rfl r))
  |_=>injection e with e;subst e;exact av ⟨rfl,rfl⟩
theorem zK (e:G a=ac u) (n:fV u=af) (r:∀l x,u=bQ l x→R.lookup x=ah) (b:h.get? a=ac o):iI R h G a=ac (.a o):=by
 unfold iI;refine ak e ?_;induction u with
 |slot l x=>show(match R.lookup x with|some p=>ac (bQ af p)|none=>(h.get? a).map fl.a)=_;refine ak (r l x rfl) (ak b ?_);rfl
 |ns=>refine ak b ?_;rfl
 |cell=>refine ak b ?_;rfl
 |_=>injection n
theorem vx (e:G a=ac (bQ l x)) (r:R.lookup x=ac p):iI R h G a=ac (bQ af p):=by
 unfold iI;refine ak e (?_:(match R.lookup x with|some p=>ac (bQ af p)|none=>(h.get? a).map fl.a)=_);refine ak r ?_;rfl
theorem wx (e:G a=ac t) (n:fV t=af):ju G g a=ac t:=by unfold ju;refine ak e (ak x9 (ak n ?_));rfl
theorem sp (e:ju G g a=ac t):(fV t=af∧G a=ac t)∨(fV t=ai∧g a=ac t):=by
 unfold ju at e;induction h:(G a).any fV with
 |true=>
  rw[h] at e;have e:G a=ac t:=e;rw[e] at h;exact av ⟨h,e⟩
 |false=>
  rw[h] at e;induction b:(g a).any fV with
  |true=>rw[b] at e;injection e
  |false=>
   rw[b] at e;have e:g a=ac t:=e;rw[e] at b;exact aI ⟨b,e⟩
theorem Qp (e:d6 w a=ac t):fV t=false:=by
 unfold d6 at e;split at e
 ·injection e
 ·split at e<;>cases e<;>rfl
theorem xy (h:Al u):fV u=ai∧∀o,u≠.a o:=by
 induction u with
 |a o=>exact h.elim
 |ns=>exact h.elim
 |cell=>exact h.elim
 |slot l x=>exact h.elim
 |_=>exact⟨rfl,fun o e=>by injection e⟩
theorem xH:iG G (iI R h G):=fun a u q e=>tp e (xy q).1
section
variable{fr:au} {Y:ar}
theorem aU.sc (k:aU c G L Y s):mB c.w c.a G L Y s:=⟨k.same,k.ok,k.solo,k.base⟩
theorem y6 (n:fV t=ai) (h:∀k x a,G a=ac (cJ k x)→g a=ac (cJ k x)):nR G g Y Y L b t:=.c (fun l x e=>by subst e;injection n) h
theorem aU.call (k:aU c G L Y s) (v:∀x p,R.lookup x=ac p→∃l q,bG x L=ac (gS l q)∧bG p fr=ac (.a q)) (w:∀x y p,R.lookup x=ac p→R.lookup y=ac p→x=y):mB c.w c.a (iI R s.heap G) fr Y s:=by
 refine⟨k.same,fun a t e=> ?_,fun a b t S A j=> ?_,fun a t u e=>tp (k.base a t u e) (Qp e)⟩
 ·rcases sE e with⟨n,g⟩|⟨o,u,rfl,d,_⟩|⟨p,l,x,rfl,g,i⟩
  ·exact(k.ok a t g).imp fun o z=>z.imp_right (ku.view xH (y6 n fun _ _ _ h=>tp h rfl))
  ·exact bd o d rfl
  ·obtain⟨o,d,q,C,r⟩:=k.ok _ _ g;refine bK (v x p i) fun D Q m F=> ?_;rw[C] at m;obtain⟨_,rfl⟩:=kG (bD m);exact⟨o,d,q,F,r.mono xH⟩
 ·rcases sE A with⟨n,g⟩|⟨o,u,rfl,d,_⟩|⟨p,l,x,rfl,g,i⟩
  ·rcases sE j with⟨_,f⟩|⟨o,u,rfl,_⟩|⟨p,l,x,rfl,_⟩
   ·exact k.solo a b t S g f
   ·exact S.elim
   ·injection n
  ·exact S.elim
  ·rcases sE j with⟨n,_⟩|⟨o,u,e,_⟩|⟨P,D,X,e,f,I⟩
   ·injection n
   ·injection e
   ·cases e;cases w x X p i I;obtain⟨_,_,q,z,_⟩:=k.ok _ _ g;obtain⟨_,_,Q,Z,_⟩:=k.ok _ _ f;rw[z] at Z;obtain⟨rfl,_⟩:=kG (Option.some.inj Z);exact k.solo a b (.slot _ _) trivial g f
theorem aU.bk (k:aU c G L Y s) (k':mB c.w c.a g f st' S) (l:bV ai (iI R s.heap G) g) (e:G a=ac t) (n:fV t=af) (h:∀l x,t=bQ l x→R.lookup x=ah) (b:s.heap.get? a=ac o):S.heap.get? a=ac o:=
 (k'.ok _ _ (l a (.a o) trivial (zK e n h b))).elim fun p z=>z.2▸z.1
theorem aU.bg_of (k:aU c G L Y s) (l:bV ai (iI R s.heap G) b) (e:b a=ac t) (n:fV t=ai) (N:∀o,t≠.a o):ju G b a=ac t:=by
 unfold ju;induction g:(G a).any fV with
 |false=>refine ak e (ak x9 (ak n ?_));rfl
 |true=>
  induction h:G a with
  |none=>rw[h] at g;injection g
  |some u=>
   have d:=(h▸g);refine ay (k.ok _ _ h) fun o f _=> ?_;by_cases r:∀l x,u=bQ l x→R.lookup x=ah
   ·have:=l a (.a o) trivial (zK h d r f);rw[e] at this;exact aR (bD this) (N o)
   ·have⟨q,x,p,i,j⟩:∃l x p,u=bQ l x∧R.lookup x=ac p:=gl fun z=>r fun l x e=>by
     induction m:R.lookup x with
     |none=>rfl
     |some p=>exact aR (iO l x p e m) z
    subst i;have:=l a (bQ af p) rfl (vx h j);rw[e] at this;injection this with this;subst this;injection n
theorem aU.back (k:aU c G L Y s) (k':mB c.w c.a i W st' S) (l:bV ai (iI R s.heap G) i) (I:∀y,R.lookup y=ah→bG y M=bG y L)
  (N:∀x p,R.lookup x=ac p→∃l q Q,bG x L=ac (gS l q)∧bG p W=ac (.a Q)∧bG x M=ac (gS l Q)):bT ai c G (ju G i) M st' S∧iG i (ju G i):=by
 have d:iG i (ju G i):=fun a t u e=>k.bg_of l e (xy u).1 (xy u).2;have w:bV ai G (ju G i):=fun a t u e=>by
  induction n:fV t with
  |true=>exact wx e n
  |false=>
   have:=l a t u (tp e n);unfold ju;refine ak e (ak x9 (ak n (ak this (ak x9 (ak n ?_)))));rfl
 refine⟨⟨w,fun a f x e=>(sp e).elim (fun h=>h.2) fun h=>(nomatch h.1),⟨k'.same,fun a t e=> ?_,fun a b t T x y=> ?_,k.bs w,fun x=>by have:=k.vis x;revert this;cases c.pl x<;>exact w.ls _ _ trivial,fun x X e=> ?_⟩⟩,d⟩
 ·rcases sp e with⟨n,g⟩|⟨n,g⟩
  ·refine ay (k.ok _ _ g) fun o A z=> ?_;induction t with
   |ns=>exact⟨o,k.bk k' l g n (fun _ _ e=>by cases(e)) A,z⟩
   |cell=>exact⟨o,k.bk k' l g n (fun _ _ e=>by cases(e)) A,z⟩
   |slot f x=>
    induction r:R.lookup x with
    |none=>exact⟨o,k.bk k' l g n (fun l y e=>by cases(e);exact r) A,z.imp fun q z=>⟨(I x r).trans z.1,z.2.mono w.ld⟩⟩
    |some p=>
     obtain⟨Z,α,β,C,γ⟩:=k'.ok _ _ (l a (bQ af p) rfl (vx g r));refine j9 (N x p r) fun U q Q D V j=>ay z ?_;clear z;intro δ z _;have z:=D▸z;have C:=V▸C;cases(kG (bD z)).1;cases(C);exact⟨Z,α,β,j,γ.mono d⟩
   |_=>cases(n)
  ·exact(k'.ok a t g).imp fun o z=>z.imp_right (ku.view d (y6 n fun _ _ _ h=>k.bg_of l h rfl (fun _ e=>by cases(e))))
 ·rcases sp x with⟨n,g⟩|⟨n,g⟩<;>rcases sp y with⟨m,F⟩|⟨m,F⟩
  ·exact k.solo a b t T g F
  ·have m:=n▸m;injection m
  ·have m:=n▸m;injection m
  ·exact k'.solo a b t T g F
 ·have P {v:Value} (y:iE G s.heap x v (c.pl x)):iE (ju G i) S.heap x v (c.pl x):=y.mono w.ls fun a o q A=>q.elim (fun q=>k.bk k' l q rfl (fun _ _ e=>by cases(e)) A) fun q=>k.bk k' l q rfl (fun _ _ e=>by cases(e)) A;induction r:R.lookup x with
  |none=>exact(k.fr x X ((I x r).symm.trans e)).imp fun v y=>y.imp P (jx.mono w.ls fun a _ g=>wx g rfl)
  |some p=>
   refine j9 (N x p r) fun U q Q D V j=> ?_;have j:=e▸j;injection j with j;subst j;exact(k.fr x _ D).imp fun v y=>y.imp P fun y=>by induction U<;>exact y.imp fun a z=>z.imp_right fun g=>wx g rfl
end
end
noncomputable def ip:List Nat→List (aj⊕Nat)→r8
 |p::H,.inl _::a=>ip H a
 |p::H,.inr x::a=>(x,p)::ip H a
 |_,_=>[]
def F_ (G:bN) (p:Nat) (a:fO) (v:aV):Prop:=match a with
 |.l d=>a8 G d v
 |.a _=>∃a,v=am a∧G a=ac (bQ af p)
noncomputable def xl (G:bN):List Nat→List fO→List aV→Prop
 |_,[],[]=>True
 |p::H,a::A,v::V=>F_ G p a v∧xl G H A V
 |_,_,_=>False
structure oL (n:Nat) (A:pO):Prop where
 b:A.handled=ah
 j:A.depth+8*n+4≤900
 d:A.units+40*n+20≤9000
def iJ (w:bZ) (n:Nat) (i:kz):Prop:=∀{g a Y d c S},i g a Y d c S→∃f H D F,i_.lookup g=ac f∧H.Nodup∧j' H a D=ac F∧
 ∀{e G A s V R},oL n A→mB w e G F Y s→xl G H a V→(∀{v h b L},bV ai G b→mB w e b L S h→p6 L H a=ac c→a8 b d v→R (jJ (.ret v)) h)→oi (aN aC w) A (.call (am f.1) ⟨V,[]⟩) R s
def k_ (G:bN) (a:aj⊕Nat) (v:aV):Prop:=match a with
 |.inl d=>a8 G d v
 |.inr x=>∃a,v=am a∧∀b l,G b=ac (bQ l x)→b=a
theorem zO:∀{l:List Nat},wO l=af→l.Nodup:=by
 intro l;induction l with
 |nil=>
  exact fun _=>ye
 |cons x r i=>
  intro h;obtain⟨a,b⟩:=bS.mp h;exact gn.mpr ⟨fun m=>aR (ml a) (by refine ak (ee.mpr m) ?_;exact nofun),i b⟩
section
theorem nb {r:r8}:kj x ((y,p)::r)=if x=y then ac p else r.lookup x:=by
 rw[fP];by_cases h:x=y
 ·rw[aJ h,h,iX]
 ·rw[aL h,c5.mpr h]
theorem v7 (e:lj L (jm x::A)=ac s) {P:Prop} (q:∀c a,gV x L=ac c→lj L A=ac a→s=.a c::a→P):P:=by
 have e:=e;exact ay (jG.mp e) fun c h e=>ay (dg.mp e) fun a b e=>q c a h b e.symm
theorem vb (e:lj L (fS d::A)=ac s) {P:Prop} (q:∀a,lj L A=ac a→s=.l d::a→P):P:=by
 have e:=e;exact ay (dg.mp e) fun a h e=>q a h e.symm
theorem Hv:∀{H:List Nat} {s:List fO} {f:au},H.Nodup→lj L A=ac s→j' H s D=ac f→
  (∀x∈iK A,((ip H A).lookup x).isSome=af)∧∀x p,(ip H A).lookup x=ac p→x∈iK A∧p∈H∧∃c,gV x L=ac c∧bG p f=ac (.a c):=by
 induction A with
 |nil=>intro H s f _ _ _;exact⟨nofun,fun x p h=>by induction H<;>injection h⟩
 |cons a A m=>
  intro H s f n o E;have S {p q:Nat} {H:List Nat} {l:il} {f:au} (n:(p::H).Nodup) (t:q∈H):bG q ((p,l)::f)=bG q f:=aL (fun e=>(gn.mp n).1 (by rw[e];exact t));induction a with
  |inl d=>
    refine vb o fun g F e=> ?_;subst e;induction H using cn with
    |nil=>injection E
    |cons p H=>
     refine ay (dg.mp (show(j' H g D).map ((p,.l d)::·)=ac f from E)) fun u j k=> ?_;subst k;obtain⟨I,i⟩:=m (gn.mp n).2 F j;exact⟨I,fun x q h=>(i x q h).imp_right fun z=>z.elim fun r v=>⟨e9 _ r,by rw[S n r];exact v⟩⟩
  |inr y=>
    refine v7 o fun c g w F e=> ?_;subst e;induction H using cn with
    |nil=>injection E
    |cons p H=>
     refine ay (dg.mp (show(j' H g D).map ((p,.a c)::·)=ac f from E)) fun u j k=> ?_;subst k;obtain⟨I,i⟩:=m (gn.mp n).2 F j;refine⟨fun x h=> ?_,fun x q h=> ?_⟩
     ·show(kj x ((y,p)::ip H A)).isSome=af;rw[nb];by_cases b:x=y
      ·rw[aJ b];rfl
      ·rw[aL b];exact I x ((eS.mp h).resolve_left b)
     ·have h:kj x ((y,p)::ip H A)=ac q:=h;rw[nb] at h;by_cases b:x=y
      ·rw[aJ b] at h;injection h with h;subst h;subst b;exact⟨cU _,cU _,c,w,aJ rfl⟩
      ·rw[aL b] at h;exact⟨e9 _ (i x q h).1,e9 _ (i x q h).2.1,by rw[S n (i x q h).2.1];exact(i x q h).2.2⟩
theorem Bv:∀{H:List Nat} {x p:Nat},(ip H A).lookup x=ac p→x∈iK A∧p∈H:=by
 induction A with
 |nil=>intro H x p h;induction H<;>injection h
 |cons a A i=>
  intro H x p h;induction H using cn with
  |nil=>injection h
  |cons q H=>induction a with
   |inl d=>exact(i h).imp_right (e9 _)
   |inr y=>
    have h:kj x ((y,q)::ip H A)=ac p:=h;rw[nb] at h;by_cases b:x=y
    ·rw[aJ b] at h;injection h with h;subst h;exact⟨b▸cU _,cU _⟩
    ·rw[aL b] at h;exact(i h).imp (e9 _) (e9 _)
theorem KA:∀{H:List Nat} {x y p:Nat},H.Nodup→(ip H A).lookup x=ac p→(ip H A).lookup y=ac p→x=y:=by
 induction A with
 |nil=>intro H x y p _ h;induction H<;>injection h
 |cons a A i=>
  intro H x y p n h g;induction H using cn with
  |nil=>injection h
  |cons q H=>induction a with
   |inl d=>exact i (gn.mp n).2 h g
   |inr z=>
    have b:kj x ((z,q)::ip H A)=ac p:=h;have G:kj y ((z,q)::ip H A)=ac p:=g;clear h g;rw[nb] at b G;have N {x:Nat} (h:(ip H A).lookup x=ac q):False:=(gn.mp n).1 (Bv h).2;by_cases e:x=z
    ·rw[aJ e] at b;injection b with b;subst b;by_cases c:y=z
     ·rw[e,c]
     ·rw[aL c] at G;exact(N G).elim
    ·rw[aL e] at b;by_cases c:y=z
     ·rw[aJ c] at G;injection G with G;subst G;exact(N b).elim
     ·have G:=aL c▸G;exact i (gn.mp n).2 b G
theorem I_:∀{H:List Nat} {s:List fO} {cs:List b0} {L g:au},(iK A).Nodup→lj ζ A=ac s→p6 f H s=ac cs→qD (iK A) cs L=ac g→
  (∀y,y∉iK A→bG y g=bG y L)∧∀x p,(ip H A).lookup x=ac p→x∈iK A∧∃l q Q,bG x L=ac (gS l q)∧bG p f=ac (.a Q)∧bG x g=ac (gS l Q):=by
 induction A with
 |nil=>intro H s cs L g _ _ _ e;induction cs<;>cases e;exact⟨fun _ _=>rfl,fun x p h=>by induction H<;>injection h⟩
 |cons R A i=>
  intro H s cs L g n w E t;induction R with
  |inl d=>
   refine vb w fun u F e=> ?_;subst e;induction H using cn with
   |nil=>exact(i (H:=[]) n F (by induction u<;>exact E) t).imp_right fun h x p e=>by injection e
   |cons p H=>exact i n F E t
  |inr y=>
   refine v7 w fun c u η F e=> ?_;subst e;obtain⟨N,T⟩:=gn.mp (n);induction H using cn with
   |nil=>injection E with E;subst E;injection t
   |cons p H=>
    have E:(match bG p f with|some (.a c)=>(p6 f H u).map (c::·)|_=>ah)=ac cs:=E
    induction v:bG p f with
    |none=>have E:=v▸E;injection E
    |some S=>
     rw[v] at E;induction S with
     |a C=>
      refine ay (dg.mp E) fun U V W=> ?_;subst W;refine ay (jG.mp (show(jt y C L).bind (qD (iK A) U)=ac g from t)) fun X r Z=> ?_;obtain⟨I,α⟩:=i T F V Z;have k:∃l q,bG y L=ac (gS l q):=by
       unfold jt at r;generalize bG y L=o at r⊢;induction o with
       |none=>injection r
       |some S=>
        induction S with
        |l d=>injection r
        |own c=>exact o_ ai _ rfl
        |a c=>exact o_ af _ rfl
      refine oQ k fun l q B=> ?_;have D:=vh B r;have G {z:Nat} (h:z≠y):bG z X=bG z L:=(aS (bG z) D).trans (kR.trans (aL h));refine⟨fun z M=>(I z fun m=>M (e9 _ m)).trans (G fun e=>M (e▸cU _)),fun x P h=> ?_⟩;have h:kj x ((y,p)::ip H A)=ac P:=h;rw[nb] at h;by_cases b:x=y
      ·rw[aJ b] at h;exact⟨b▸cU _,mx l q C (b▸B) (bD h▸v) ((I x (b▸N)).trans ((aS (bG x) D).trans (kR.trans (aJ b))))⟩
      ·rw[aL b] at h;obtain⟨m,β,γ,δ,j,ε⟩:=α x P h;exact⟨e9 _ m,iO β γ δ ((G b).symm.trans j) ε⟩
     |_=>injection E
end
variable{wn:bZ×Nat}
noncomputable def Fe (o:Option cl):Bool:=match o with
 |some o=>(match o.data with
  |.func _=>af
  |_=>ai)
 |none=>ai
theorem GE (P:bX):(i_.all fun r=>Fe ((cO P).get? r.2.1))=true:=by kernel_rfl
theorem s2:(i_.all fun p=>fx 1000 p.1||l2 p.1==p.2.1)=af∧(j8.all fun p=> !fx 1000 p.2)=af∧(j8.all fun p=> !(p.1==("__debug__":br)))=af∧(nu.all fun c=>l2 c.1==c.2)=true:=by decide+kernel
theorem Hn (P:bX):(wR.map fun m=>(lZ (hv P) (am (eP m.1)) (cW m.2.1),typeIn (hv P) (am m.2.2.2),(i_.lookup m.2.2.1).map (·.1),fx iA.length m.2.1,m.2.1==2))=wR.map fun m=>(ac (ac (am m.2.2.2)),ac (bn "function"),ac m.2.2.2,ai,ai):=by kernel_rfl
theorem Kw (P:bX) {g:Nat} {f:Nat×Nat} (h:i_.lookup g=ac f):∃o fd,(cO P).get? f.1=ac o∧o.data=pP fd:=by
 have:=cH.mp (GE P) _ (hL h);induction e:(cO P).get? f.1 with
 |none=>rw[e] at this;exact aR this cp
 |some o=>
  rw[e] at this;have this:(match o.data with|.func _=>af|_=>ai)=true:=this
  induction d:o.data with
  |func fd=>exact⟨o,fd,rfl,d⟩
  |_=>rw[d] at this;exact aR this cp
section
variable{X X0:dT} {Z:d1→Prop} {r:gv} {c:dr} {G G' G1:bN} {L L':au} {Y st':ar} {s s':ct} {E:aV→ct→Prop} {mg mb:br→Option aV} {a b m:bt} {ea eb em:c6} {pos p':Pos} {n:Nat}
theorem k_.mono {bb:Bool} (p:bT bb c G G' L Y s) {a:aj⊕Nat} {v:aV} (h:k_ G a v):k_ G' a v:=by
 induction a with
 |inl d=>exact a8.mono p.l.ld h
 |inr x=>exact h.imp fun a h=>h.imp_right fun h b l e=>h b l (p.h b l x e)
theorem Iw {ms:List Bool} {m:bt} {x:Nat} (h:r4 ms m L=ac x):m=.f x∧∃q,gV x L=ac q:=by
 rcases ms with _|⟨_|_,r⟩
 ·exact nomatch h
 ·exact nomatch h
 ·induction m using bt.casesOn with
  |f y=>have q:=du h;have e:=bD q.2;exact⟨e▸rfl,e▸mW.mp q.1⟩
  |_=>exact nomatch h
theorem BI (R:b2 wn X Z r) (o:bj wn c) {f:List bt}:∀{l:List c6} {ms:List Bool} {G:bN},eQ c.sc f l=af→dq X Z c ai G (fun G A vs=>dQ (k_ G) A vs) (nr r ms f) (lW (gL pos (gt (dJ f l) c.env))):=by
 induction f with
 |nil=>intro l ms G h L Y s j Q E k w q;exact pG (q (d:=[]) (.of k) cI w)
 |cons m f i=>
  intro l ms G h L Y s j Q E k w q;obtain⟨u,y⟩:=bS.mp h;show aH _ _ (lW (gL pos (gt (bz m (l.headD fy)::dJ f l.tail) c.env))) Q E s;rw[(hO u).a];have w:aQ X Z (match r4 ms m L with
   |some x=>nr r ms.tail f L Y fun A L Y=>j (jm x::A) L Y
   |none=>r.e m L Y fun d L Y=>nr r ms.tail f L Y fun A L Y=>j (fS d::A) L Y):=w
  induction v:r4 ms m L with
  |none=>rw[v] at w;exact m5 (R o u k w fun p d w=>i y p.k w fun P D w=>q (d:=fS _::_) (p.low.tr P) (cy (d.mono P.l.ld) D) w)
  |some x=>
   rw[v] at w;obtain⟨rfl,z,C⟩:=Iw v;obtain⟨F,g⟩:=nQ C;refine ay (k.peek g) fun a I t=>m5 (pX o u I (i y k w fun P D w=>q (d:=jm x::_) P (cy (k_.mono P ⟨a,rfl,fun b l e=> ?_⟩) D) w));obtain⟨_,_,M,B,_⟩:=k.ok _ _ e;rw[g] at B;cases(kG (bD B)).1;exact k.solo _ _ (bQ F x) trivial e t
theorem Lw {R:r8} {h:fT} (k:aU c G L Y s) {A:List (aj⊕Nat)}:∀{H:List Nat} {j:List fO} {vs:List aV} {D:List aj} {f:au},(iK A).Nodup→dQ (k_ G) A vs→lj L A=ac j→j' H j D=ac f→(∀x p,(ip H A).lookup x=ac p→R.lookup x=ac p)→xl (iI R h G) H j vs:=by
 induction A with
 |nil=>intro H j vs D f _ v e _ _;injection e with e;subst e;cases v;induction H<;>trivial
 |cons a A i=>
  intro H j vs D f C v e o w;cases v with
  |cons I v=>
  induction a with
  |inl d=>
   refine vb e fun z F e=> ?_;subst e;induction H using cn with
   |nil=>injection o
   |cons p H=>
    exact ay (dg.mp (show(j' H z D).map ((p,.l d)::·)=ac f from o)) fun M B _=>⟨a8.mono xH I,i C v F B w⟩
  |inr y=>
   refine v7 e fun q z P F e=> ?_;subst e;obtain⟨N,Q⟩:=gn.mp (show(y::iK A).Nodup from C);induction H using cn with
   |nil=>injection o
   |cons p H=>
    refine ay (dg.mp (show(j' H z D).map ((p,.a q)::·)=ac f from o)) fun M B _=> ?_;obtain⟨l,g⟩:=nQ P;refine ay (k.peek g) fun b _ t=>ay I fun a S u=> ?_;subst S;cases u b l t;refine⟨⟨_,rfl,vx t (w y p (nb.trans (aJ rfl)))⟩,i Q v F B fun x p' h=>w x p' (nb.trans ((aL ?_).trans h))⟩;rintro rfl;exact N (Bv h).1
theorem yT (F:iJ c.w n X.call) (k:aU c G L Y s) {g:Nat} {i:List (aj⊕Nat)} {vs:List aV} {K:aj→au→ar→aT} (I:dQ (k_ G) i vs) (w:aQ X Z (mz g i L Y K)):∃f,i_.lookup g=ac f∧
  ∀{A:pO} {R:Result→ct→Prop},oL n A→(∀{d L' st' G' v s'},bT ai c G G' L' st' s'→a8 G' d v→aQ X Z (K d L' st')→R (jJ (.ret v)) s')→oi (aN aC c.w) A (.call (am f.1) ⟨vs,[]⟩) R s:=by
 obtain⟨j,w⟩:=f6 w;have j:=zO j;induction ea:lj L i with
 |none=>rw[ea] at w;exact w.elim
 |some γ=>
  rw[ea] at w;refine hR w ?_;clear w;intro d C st' N w;obtain⟨f,H,δ,ε,P,t,u,Q⟩:=F N;have w:aQ X Z (match qD (iK i) C L with|some L=>K d L st'|none=>.a):=w
  induction eb:qD (iK i) C L with
  |none=>rw[eb] at w;exact w.elim
  |some L'=>
   rw[eb] at w;obtain⟨M,S⟩:=Hv t ea u;refine⟨f,P,fun o q=>Q o (k.call (R:=ip H i) (fun x p h=> ?_) fun x y p=>KA t) (Lw k j I ea u fun _ _ h=>h) fun{v s' G' ζ} l T e D=> ?_⟩
   ·obtain⟨_,_,z,U,V⟩:=S x p h;exact(nQ U).imp fun l h=>⟨z,h,V⟩
   ·obtain⟨B,W⟩:=I_ j ea e eb;obtain⟨p,α⟩:=k.back T l (fun y β=>B y fun m=>by have:=M y m;rw[β] at this;injection this) fun x p h=>(W x p h).2;exact q p (D.mono α) w
theorem Bs (F:iJ c.w n X.call) (k:aU c G L Y s) {f:Nat×Nat} {g:Nat} (i:i_.lookup g=ac f) {ts:List (h8 aV)} {prev:List aV} {Q:aV→ct→Prop} (ro:oL n c.A)
  (h:aH (aN aC c.w) c.A (lW (dO ts)) (fun vs j=>∃G1 l S A K,aU c G1 l S j∧dQ (k_ G1) A (prev++vs)∧aQ X Z (mz g A l S K)∧∀{d L' st' G' v s'},bT ai c G1 G' L' st' s'→a8 G' d v→aQ X Z (K d L' st')→Q v s') E s):
  aH (aN aC c.w) c.A (kl pos (am f.1) prev (dO ts) []) Q E s:=by
 refine bK (Kw c.w.params i) fun o fd t u=>callWith_function (o:=o) (fd:=fd) (vt (d9 h (fun vs j z=>NT z fun G1 l S A K p x w q=>⟨⟨(p.head t).1,u⟩,(ay (yT F p x w) fun C y B=> ?_)⟩) fun _ _ h=>h));have e:=bD (i.symm.trans y);subst e;exact yx (B ro @q)
end
variable{wn:bZ×Nat}
theorem Az (h:(j8.any fun p=>p.2==g)=af):∃p∈j8,p.2=g∧ed g=p.1:=by
 unfold ed;induction f:j8.find? fun p=>p.2==g with
 |none=>exact ay (t6.mp h) fun p a e=>aR e (List.find?_eq_none.mp f p a)
 |some p=>exact gX p (Q' f) (iv (Sg (p:=fun p:br×Nat=>p.2==g) f)) rfl
theorem Di (h:(j8.any fun p=>p.2==g)=af):g<1000∧(ed g==("__debug__":br))=false:=by
 refine eB (Az h) fun p a y e=> ?_;subst y;refine⟨f' fun z=> ?_,e▸ml (cH.mp s2.2.2.1 p a)⟩;have:=ml (cH.mp s2.2.1 p a);rw[DI z] at this;injection this
theorem Mo (h:i_.lookup g=ac f) (a:g<1000):l2 g=f.1:=by
 rcases(dK ..).mp (cH.mp s2.1 _ (hL h)) with e|e
 ·exact absurd (Nat.le_of_ble_eq_true e) (Nat.not_le_of_lt a)
 ·exact eq_of_beq e
section
variable{Y:ar}
theorem bj.f (o:bj wn c):oL c.n c.A:=⟨o.b,ao (cj (by decide) _) o.j,ao (cj (by decide) _) o.d⟩
theorem xh (B:en c.w mg mb) (o:bj wn c) (k:aU c G L Y s) (b:mG c.sc g=af) (d:fx 100 g=af) (t:gL pos (gt e c.env)=dO ts) (h:aH (aN aC c.w) c.A (kl pos (am (l2 g)) [] (dO ts) []) Q E s):
  aH (aN aC c.w) c.A (bO (i1 (ey (ed g) p') e [] pos) c.env) Q E s:=by
 refine(bS.mp b).elim fun f a=> ?_;have a:=(bS.mp a).1;exact SQ (Da B o k f (Di a).2 (B.funs g a (lM d)) (ak t h))
theorem O0 {T:g_} (F:iJ c.w c.n X.call) (R:b2 wn X Z r) (B:en c.w mg mb) (o:bj wn c) (j:mG c.sc g=af) (m:fx 100 g=af) (i:ky g=ah) (h:eQ c.sc e l=af):
  dq X Z c ai G a8 (fun L Y K=>nr r (T.modes g) e L Y fun a L Y=>mz g a L Y K) (bO (i1 (ey (ed g) p') (dJ e l) [] pos) c.env):=by
 intro L Y s K Q E k w q;obtain⟨u,t⟩:=xc h;obtain⟨_,b⟩:=bS.mp j;obtain⟨b,n⟩:=bS.mp b;rw[m,i] at n;obtain⟨v,f⟩:=mW.mp (n);exact xh B o k j m t (ak (Mo f (Di b).1) (Bs (Z:=Z) F k f o.f (ak (cB t) (BI R o h k w fun p A w=>CW _ _ _ _ _ p.k A w (fun P d w=>q (p.tr P) d w)))))
theorem Ca {m:Nat} (h:oN i m=ac g):∃a,lZ (hv P) (am (eP i)) (cW m)=ac (ac (am a))∧typeIn (hv P) (am a)=ac (bn "function")∧(∃x,i_.lookup g=ac (a,x))∧m<iA.length∧m≠2:=by
 refine ay (dg.mp h) fun p b y=> ?_;subst y;have d:=Sg b;refine(bS.mp d).elim fun e E=> ?_;have q:=jH.mp (Hn P) _ (Q' b);injection q with f q;injection q with j q;injection q with k q;injection q with Q c;cases iv e;cases iv E;refine ay (dg.mp k) fun l n o=> ?_;obtain⟨a,x⟩:=l;subst o;refine xC _ f j (⟨x,n⟩) (f' fun z=> ?_) (fun z=> ?_)
 ·rw[DI z] at Q;injection Q
 ·rw[z] at c;injection c
theorem FG (F:iJ c.w c.n X.call) (R:b2 wn X Z r) (z:bj wn c) {n:Nat} (h:eQ c.sc f l=af) (e:gL pos (gt (dJ f l) c.env)=dO ts) {K:aj→au→ar→aT} {a:bp} (k:aU c G L Y s) (t:G a=ac (ga j))
  (w:aQ X Z (xM T r j n f L Y K)) (q:∀{d B st' C v S},n≠2→bT ai c G C B st' S→a8 C d v→aQ X Z (K d B st')→Q v S):aH (aN aC c.w) c.A (m6 (am a) (cW n) ι) (fun p N=>aH (aN aC c.w) c.A (kl p' p.1 p.2 (dO ts) []) Q E N) E s:=by
 unfold xM at w;induction b:Y[j]?with
 |none=>have w:=b▸w;exact w.elim
 |some i=>
  rw[b] at w;have w:aQ X Z (match(if(i.attrs.lookup n).isNone then oN i.cls n else ah) with
   |some g=>nr r (T.modes g).tail f L Y fun A L Y=>mz g (fS (an j)::A) L Y K
   |none=>.a):=w
  induction m:(if(i.attrs.lookup n).isNone then oN i.cls n else ah) with
  |none=>have w:=m▸w;exact w.elim
  |some g=>
   rw[m] at w;refine(du m).elim fun U m=>xo (Ca (P:=c.w.params) m) fun κ V W y α β=>y.elim fun x γ=>k.inst t fun δ o μ ν M I=> ?_;have ε:δ=i.cls:=by have:=I.cls;unfold f8 at this;rw[b] at this;exact(bD this).symm
   refine iN (uX c.w.params I.ok) fun ζ u _ _=> ?_;have η:M (cW n)=none:=by
    have:=I.attrs n α;unfold fk at this;rw[b] at this;have this:mF G j n (M (cW n)) ((i.attrs.lookup n).map mi):=this;rw[Option.isNone_iff_eq_none.mp U] at this;exact this
   refine method_fn k.kf I.inst ζ u (ε▸V) W (by unfold shadowIn;dsimp only;rw[I.look,η];rfl) ?_;refine Bs (prev:=[am a]) (Z:=Z) F k γ z.f ?_;exact ak (cB e) (BI R z h k w fun p θ w=>CW _ _ _ _ _ p.k (cy (show k_ _ (fS (an j)) (am a) from⟨a,rfl,p.l a (ga j) trivial t⟩) θ) w (fun u D w=>q β (p.tr u) D w))
end
theorem z4 (P:bX):(nu.all fun c=>makesIn (hv P) c.2)=true:=by kernel_rfl
theorem Ie (P:bX):([252,257,273].map fun c=>lZ (hv P) (am (eP c)) "__init__")=[252,257,273].map fun c=>ac (ac (bJ "object.__init__")):=by kernel_rfl
theorem Hx:cW 34=gp "__init__":=by decide+kernel
theorem sQ {Y:ar} (h:k<Y.length):f8 (Y++[i]) k=f8 Y k∧∀x,fk (Y++[i]) k x=fk Y k x:=by
 unfold f8 fk;exact ak (jF h) (⟨rfl,fun _=>rfl⟩)
theorem qq {Y:ar} (h:f8 Y k=ac i):k<Y.length:=(dg.mp h).elim fun _ h=>(hy.mp h.1).1
theorem OO {Y:ar} (h:fk Y k x=ac i):k<Y.length:=(jG.mp h).elim fun _ h=>(hy.mp h.1).1
section
variable{c:dr} {Y:ar}
theorem aU.born (k:aU c G L Y s) {g:Nat} (u:jW g=af) (m:r=dt (dt G s.heap.objs.size (g8 Y.length)) (s.heap.objs.size+1) (ga Y.length)):bT ai c G r L (Y++[⟨g,[]⟩]) {s with heap:=(s.heap.push lU).push (k7 (eP g) s.heap.objs.size)}∧a8 r (an Y.length) (am (s.heap.objs.size+1)):=by
 have p:∀b o,s.heap.get? b=ac o→((s.heap.push lU).push (k7 (eP g) s.heap.objs.size)).get? b=ac o:=fun b o e=>iq _ (iq _ e);have z:((s.heap.push lU).push (k7 (eP g) s.heap.objs.size)).get? s.heap.objs.size=ac emptyDict:=iq _ (g4 _ rfl);have A:((s.heap.push lU).push (k7 (eP g) s.heap.objs.size)).get? (s.heap.objs.size+1)=ac (k7 (eP g) s.heap.objs.size):=by
  have:=g4 (s.heap.push lU) (o:=k7 (eP g) s.heap.objs.size) rfl;rwa[yd] at this
 have n:s.heap.objs.size≠s.heap.objs.size+1:=hZ (lO _);have N:dt G s.heap.objs.size (g8 Y.length) (s.heap.objs.size+1)=none:=(hW n.symm).trans (k.free (by
  induction e:s.heap.get? (s.heap.objs.size+1) with
  |none=>rfl
  |some o=>exact aR (ki e) (e7 (fQ _))))
 have l:=m▸(jP (b:=af) k.B).trans (jP (b:=af) N);have I {a:bp} {t:fl} (e:r a=ac t):(a=s.heap.objs.size+1∧t=ga Y.length)∨(a=s.heap.objs.size∧t=g8 Y.length)∨G a=ac t:=by
  subst m;exact(gc e).imp id fun e=>(gc e.2).imp id fun e=>e.2
 have d {t:fl} {a:bp} (S:t=ga Y.length∨t=g8 Y.length) (e:G a=ac t):False:=by
  refine ay (k.ok _ _ e) fun o _ h=> ?_;rcases S with rfl|rfl
  ·refine bK h ?_;clear h;intro c _ h _;exact Nat.lt_irrefl _ (qq h)
  ·obtain⟨i,q⟩:=Option.isSome_iff_exists.mp h.1;exact Nat.lt_irrefl _ (qq q)
 have w:f8 (Y++[⟨g,[]⟩]) Y.length=some g:=by unfold f8;rw[List.getElem?_append_right (Nat.le_refl _),Nat.sub_self];rfl
 have C:∀x,fk (Y++[⟨g,[]⟩]) Y.length x=none:=fun x=>by unfold fk;rw[jE (bv _),pE];rfl
 refine⟨⟨l.low,fun a f x e=>(I e).elim (fun h=>nomatch h.2) fun h=>h.elim (fun h=>nomatch h.2) id,(k.step l.ls (k.bs l.low) (fun a t e=> ?_) (fun a b t S x y=> ?_) fun x D h=>(k.fr x D h).imp fun v y=>y.imp (iE.mono l.ls fun b o _=>p b o) (jx.mono l.ls fun b _ h=> ?_))⟩,_,rfl,(m▸hX)⟩
 ·rcases I e with⟨rfl,rfl⟩|⟨rfl,rfl⟩|e
  ·exact .inl ⟨_,A,g,_,w,u,rfl,(fun _ h=>(by injection h)),rfl,(m▸(hW n).trans hX)⟩
  ·refine .inl ⟨_,z,by rw[w];rfl,fun _=>none,fun h a e=>Heap.Ns1.of_empty ⟨_,#[],0,e,rfl,fun _ F=>absurd F (Array.not_mem_empty _),fun _=>rfl⟩,fun x M=> ?_,fun _ _=>rfl⟩;rw[C];rfl
  ·refine .inr ⟨e,fun o=>p a o,(ay (k.ok _ _ e) fun o _ h=> ?_)⟩;induction t with
   |inst j=>exact h.elim fun c h=>h.elim fun _ h=>(sQ (qq h.1)).1
   |box j x=>exact h.elim fun c h=>(sQ (OO h.1)).2 x
   |dict j=>obtain⟨i,q⟩:=mW.mp h.1;exact⟨(sQ (qq q)).1,fun x=>⟨by rw[(sQ (qq q)).2 x],fun b h=>l b _ (av rfl) h⟩⟩
   |slot f x=>exact rfl
   |_=>exact trivial
 ·rcases I x with⟨rfl,rfl⟩|⟨rfl,rfl⟩|X
  ·rcases I y with⟨rfl,_⟩|⟨_,h⟩|y
   ·rfl
   ·injection h
   ·exact(d (.inl rfl) y).elim
  ·rcases I y with⟨_,h⟩|⟨rfl,_⟩|y
   ·injection h
   ·rfl
   ·exact(d (.inr rfl) y).elim
  ·rcases I y with⟨_,rfl⟩|⟨_,rfl⟩|y
   ·exact(d (.inl rfl) X).elim
   ·exact(d (.inr rfl) X).elim
   ·exact k.solo a b t S X y
 ·exact m▸(hW (by rintro rfl;rw[hW n.symm] at N;rw[N] at h;injection h)).trans ((hW (by rintro rfl;rw[k.B] at h;injection h)).trans h)
theorem zf {C:bp} (h:aH (aN aC c.w) c.A (lW (dO ts)) (fun vs S=>Makes (aN aC c.w) S.heap C∧aH (aN aC c.w) c.A (gN (am C) vs) Q E S) E s):aH (aN aC c.w) c.A (kl pos (am C) [] (dO ts) []) Q E s:=by
 refine aG (eF (vt (d9 h (fun vs S a=>aG (fw ?_)) fun _ _ x=>x)));obtain⟨M,b⟩:=a;refine ak (vw (ts:=ts)).1 ?_;exact aG (tL M.obj fun o d g l e _=>(aG (wpAny_load e (aG (M.call.here (bo (ak (aJ (by simp)) (aG (d9 b (fun v i f=>aG (eF (wpAny_point (bo f)))) fun _ _ x=>x)))))))))
end
variable{wn:bZ×Nat}
section
variable{Y:ar}
theorem z0 (C:bp) (vs:List aV):(uf "type.__call__" ⟨am C::vs,[]⟩).weight=1∧(uf "type.__call__" ⟨am C::vs,[]⟩).cUnits=1:=⟨by kernel_rfl,by kernel_rfl⟩
theorem bj.under (o:bj wn c) {C:bp}:oL c.n (c.A.under (uf "type.__call__" ⟨am C::vs,[]⟩)):=by
 refine⟨o.b, ?_, ?_⟩
 ·have U:=o.j;refine((ak ((z0 C vs).1) ?_):c.A.depth+(uf "type.__call__" ⟨am C::vs,[]⟩).weight+_+_≤_);exact cD (.c 1 (.a (.a .b (.m 8 .f)) (.n 8)) (.n 900) (.g 1 (.a (.a (.a .b .n1) (.m 8 .f)) (.n 4)) (.n 900))) rfl U
 ·have U:=o.d;refine((ak ((z0 C vs).2) ?_):c.A.units+(uf "type.__call__" ⟨am C::vs,[]⟩).cUnits+_+_≤_);exact cD (.c 1 (.a (.a .b (.m 40 .f)) (.n 40)) (.n 9000) (.g 1 (.a (.a (.a .b .n1) (.m 40 .f)) (.n 20)) (.n 9000))) rfl U
theorem Qs (h:ky g=ac ah):g∈[252,257,273]:=by
 unfold ky at h;split at h
 ·exact ee.mp (by assumption)
 ·exact(dg.mp h).elim fun _ h=>nomatch h.2
theorem E1 (h:ky g=ac (ac i)):oN g 34=ac i:=by
 unfold ky at h;split at h
 ·cases h
 ·exact(dg.mp h).elim fun _ h=>by cases h.2;exact h.1
theorem zS (h:jW g=af):l2 g=eP g:=iv (cH.mp s2.2.2.2 _ (sG h))
theorem M4 (h:dy G ds vs):dQ (k_ G) (ds.map fS) vs:=by
 exact h.rec cI fun a _ i=>cy a i
theorem LP (B:en c.w mg mb) (j:bj wn c) (l:mG c.sc g=af) (m:fx 100 g=af) (i:ky g=ac ah) (a:jW g=af):dq X Z c ai G a8 (fun L Y K=>K (an Y.length) L (Y++[⟨g,[]⟩])) (bO (i1 (ey (ed g) p') [] [] pos) c.env):=by
 intro L Y s K Q E k w q;refine xh (ts:=[]) B j k l m rfl (ak (zS a) (zf (pG ?_)));have f:=makes_of (M:=aN aC c.w) k.kf (cH.mp (z4 c.w.params) _ (sG a));refine⟨f,yx ?_⟩;obtain⟨p,d⟩:=k.born a rfl;obtain⟨h,n,D,r,u⟩:=s;have N:(((h.push lU).push (k7 (eP g) h.objs.size))).get? (h.objs.size+1)=ac (k7 (eP g) h.objs.size):=by
  have:=g4 (h.push lU) (o:=k7 (eP g) h.objs.size) rfl;rwa[yd] at this
 refine make_core f (looks_findIn k.kf (jH.mp (Ie c.w.params) g (Qs i))) (fun S=>Looks.of_pure (oi_bind S)) (aI ⟨rfl,rfl⟩) ?_;have t:Looks (aN aC c.w) ((h.push lU).push (k7 (eP g) h.objs.size)) (typeOf (am (h.objs.size+1))) (am (eP g)):=(Looks.ld N).andThen .now;have T:Looks (aN aC c.w) ((h.push lU).push (k7 (eP g) h.objs.size)) (isInstance (am (h.objs.size+1)) (bn "object")) true:=t.andThen (f.top.keeps fun b o e=>iq _ (iq _ e));refine codeAny_call_builtin oi_plain entry_oi (@check_slot (aN aC c.w) _ _ _ "object.__init__" "object" "__init__" (am (h.objs.size+1)) [] [] _ oi_kind oi_split T (oi_args (am (h.objs.size+1))) ?_);rw[oi_run];exact bo (EP rfl (q p d w))
theorem Md (F:iJ c.w c.n X.call) (R:b2 wn X Z r) (B:en c.w mg mb) (o:bj wn c) {g:Nat} (C:mG c.sc g=af) (N:fx 100 g=af) (i:ky g=ac (ac I)) (j:jW g=af) (h:eQ c.sc e l=af):
  dq X Z c ai G a8 (fun L Y K=>g2 r e L Y fun ds L Y=>mz I (fS (an Y.length)::ds.map fS) L (Y++[⟨g,[]⟩]) fun d L st'=>match d with
   |.none=>K (an Y.length) L st'
   |_=>.a) (bO (i1 (ey (ed g) p') (dJ e l) [] pos) c.env):=by
 intro L Y s K Q E k w q;obtain⟨T,t⟩:=xc h;refine xh B o k C N t (ak (zS j) (zf (r3 R o h t k w fun p v w=> ?_)));rename_i ds ε S ζ V U;have b:=p.k;have n:=makes_of (M:=aN aC c.w) b.kf (cH.mp (z4 c.w.params) _ (sG j));refine qF (Ca (P:=c.w.params) (E1 i)) fun A u W y _=> ?_;obtain⟨x,α⟩:=y;rw[Hx] at u;refine⟨n,yx ?_⟩;obtain⟨m,D⟩:=b.born j rfl;refine ay (yT F m.k (cy (show k_ _ (fS (an S.length)) _ from D) (M4 (v.1.mono m.l.ld))) w) fun η a β=> ?_;rw[α] at a;injection a with a;subst a;obtain⟨θ,ι,κ,μ,ν⟩:=U;refine make_core n (looks_findIn b.kf u) (fun f=>bind_fn b.kf f W) (av rfl) (β o.under fun z γ w=> ?_);rename_i δ ξ ο π ρ σ;induction δ using aj.casesOn with
 |none=>cases(γ);exact⟨rfl,q ((p.low.tr m).tr z) (D.mono z.l.ld) w⟩
 |_=>exact w.elim
theorem GN (F:iJ c.w c.n X.call) (R:b2 wn X Z r) (B:en c.w mg mb) (a:bj wn c) (b:mG c.sc g=af) (d:fx 100 g=af) (h:eQ c.sc e l=af):dq X Z c ai G a8 (wX T r g e) (bO (i1 (ey (ed g) p') (dJ e l) [] pos) c.env):=by
 intro L Y s j Q E k w q;unfold wX at w;induction i:ky g with
 |none=>rw[i] at w;exact O0 F R B a b d i h k w q
 |some o=>
  rw[i] at w;induction o with
  |none=>induction e using cn with
   |nil=>refine(f6 w).elim fun f w=> ?_;exact LP B a b d i f k w q
   |cons _ _=>exact w.elim
  |some I=>refine(f6 w).elim fun f w=> ?_;exact Md F R B a b d i f h k w q
theorem M0 (F:iJ c.w c.n X.call) (R:b2 wn X Z r) (B:en c.w mg mb) (o:bj wn c) (h:cb c.sc (ap g a) e=af):dq X Z c ai G a8 (vC T r g a) (bO (bz (ap g a) e) c.env):=by
 intro L Y s f Q E k w q;obtain⟨d,h⟩:=bS.mp (show(mG c.sc g&&eQ c.sc a (ep e).tail)=af from h);unfold vC at w;induction b:fx 100 g with
 |true=>rw[b] at w;exact GN F R B o d b h k w q
 |false=>rw[b] at w;exact KB B R o (bS.mp d).1 h k w q
theorem zu (h:(bt.u a n e).simple=af):a.simple=af∧e=[]∧n=2:=by
 induction e using cn with
 |cons _ _=>cases a<;>exact aR h cp
 |nil=>induction a using bt.casesOn with
  |attr b x=>have h:=bS.mp h;exact⟨h.1,rfl,iv h.2⟩
  |_=>exact aR h cp
theorem bT.le {b:Bool} (p:bT b c G g L Y s) (h:b'=af→b=af):bT b' c G g L Y s:=⟨p.l.le h,p.h,p.k⟩
theorem F1 (F:iJ c.w c.n X.call) (R:b2 wn X Z r) (o:bj wn c) (h:cb c.sc (.u a n f) e=af):dq X Z c (bt.u a n f).simple G a8 (Av T r a n f) (bO (bz (.u a n f) e) c.env):=by
 intro L Y s N Q E k w q;refine PL R o h k w fun p C i m w=> ?_;rename_i z l U g v V W α;have S {b:Bool} (B:f=[]→b=af) (h:(bt.u a n f).simple=af):(a.simple&&b)=true:=by
  refine dM (zu h) fun I u _=>ak I (ak (B u) ?_);rfl
 induction z with
 |slot x=>exact PK R o i m p.k C w fun P D w=>q ((p.tr P).le (S fun e=>by refine ak e ?_;rfl)) D w
 |sq d=>
  induction d using aj.casesOn with
  |inst j=>
   obtain⟨a,rfl,t⟩:a8 g (an j) v:=C.resolve_right fun z=>hR z fun _ _ _ e _=>(by injection e);exact FG F R o i m p.k t w fun u P D w=>q ((p.tr P).le fun h=>aR (zu h).2.2 u) D w
  |box j x=>
   refine ay C.bx fun a y t=> ?_;subst y;obtain⟨M,w⟩:=f6 w;exact Qx R o i m p.k t M w fun P D w=>q ((p.tr P).le (S fun _=>rfl)) D w
  |e β=>
   obtain⟨A,w⟩:=f6 w;have A:=iv A;subst A;exact KN R o i m p.k (C.resolve_right fun z=>hR z fun _ _ _ e _=>(by injection e)) w fun P D w=>q ((p.tr P).le (S fun e=>by refine ak e ?_;rfl)) D w
  |_=>exact w.elim
end
section
theorem bI (h:(x&&y)=af):x=af∧y=true:=bS.mp h
theorem OV (B:en W.1 mg mb) (F:iJ W.1 W.2 X.call) (R:b2 W X Z r) (U:hI W X Z r) (P:∀{Z},b2 W D Z r) (S:∀{Z},hI W D Z r) (V:pW X D L r) (M:gv) (α:M.e=qM T L r):b2 W X Z M:=by
 intro c m e G o z;refine ak α ?_;obtain rfl:=o.r;induction m using bt.casesOn with
 |v=>exact aR z cp
 |h d=>exact QA B o z
 |f x=>exact E4 o z
 |w β a b=>exact N0 (R o (bI z).1) (R o (bI z).2)
 |q a=>exact Oi (R (e:=bA 0 e) o z)
 |k β a b=>exact fun C A Q=>wpAny_Compare1 (BS R o (bI z).1 (bI z).2 C A fun p A=>Q (d:=aA _) p rfl A) ((hO (bI z).2).mark _)
 |s p Q a b m=>exact Fm R o (bI (bI z).1).1 (bI (bI z).1).2 (bI z).2
 |and E=>exact Bo R o rfl z
 |or E=>exact Bo R o rfl z
 |l x a b=>exact J_ (U o (bI (bI z).1).1) (R o (bI (bI z).1).2) (R o (bI z).2)
 |j E=>exact I9 R o z
 |list E=>exact FT R o z
 |y=>exact FX
 |sub a i=>exact LU R o (bI z).1 (bI z).2
 |n a γ δ=>exact fun C A Q=>Oz R o (bI (bI z).1).1 (bI (bI z).1).2 (bI z).2 C A fun p=>Q (p.le fun z=>by rw[←Bool.and_assoc];exact z)
 |attr a x=>exact Oq R o (bI z).1 (bI z).2
 |call g E=>exact M0 F R B o z
 |u a N E=>exact F1 F R o z
 |comp a t I ε=>exact PH B R P S o V z
theorem K4:lX (gU d e) E w=(do let v←w;uA (gU d e).pos;holding [v] (rC v)):=by
 unfold gU;cases(fK e).c with
 |some q=>rfl
 |none=>induction d using aj.casesOn<;>first|rfl|(cases(fK e).un<;>rfl)
theorem GF (R:b2 W X Z r) (U:hI W X Z r) (M:(∀m L Y K,r.e m L Y K=.a)∨∃T γ N,b2 W X Z N∧r.e=qM T γ N) (δ:gv) (μ:δ.t=AR r):hI W X Z δ:=by
 intro C m e G u g;rewrite [μ];have ε (ν:lX (bz m e) C.env (bO (bz m e) C.env)=(do let V←bO (bz m e) C.env;uA (bz m e).pos;holding [V] (rC V))):dq X Z C m.simple G (fun _ A b=>A=b) (fun L Y i=>r.e m L Y fun d L Y=>aT.b (hG d) fun b=>i b L Y) (lX (bz m e) C.env (bO (bz m e) C.env)):=fun i w j=>isTrue_plain (R u g i w fun p D w=>w.elim fun V g=>sP p.k g.1 D fun t=>j ⟨p.l,p.h,p.k.tok t⟩ rfl g.2) ν
 intro L Y S K Q E i w j;induction m using bt.casesOn with
 |v=>exact aR g cp
 |q A=>exact isTrue_not (U (e:=bA 0 e) u g i w fun p e w=>j p.low (aS not e) w)
 |and ξ=>exact y3 U u rfl g i w j
 |or ξ=>exact y3 U u rfl g i w j
 |k ο A b=>
  show aH _ _ (lX (rA (bz A (bA 0 e)) [ο] [bz b (bA 1 e)] e.pos) C.env _) Q E S;rw[isTrue_Compare1,markedBehindIn_of_false ((hO (bI g).2).mark _)];exact aG (d9 (BS (Q:=fun V S=>aH (aN aC C.w) C.A (rC V) Q E S) (E:=E) R u (bI g).1 (bI g).2 i w fun p w=>rg (j p.low rfl w)) (fun A a₂ π=>aG (eF (d9 π (fun b a₃ ρ=>aG (fw (aG (Ej (d9 ρ (fun C a₄ σ=>eF σ) fun _ _ x=>x))))) fun _ _ x=>x))) fun _ _ x=>x)
 |s o ζ A b m=>
  rcases M with M|⟨T,γ,N,τ,B⟩
  ·have w:aQ X Z (r.e (.s o ζ A b m) L Y _):=w;rw[M] at w;exact w.elim
  ·have w:aQ X Z (r.e (.s o ζ A b m) L Y fun d L Y=>aT.b (.tr d) fun b=>K b L Y):=w;rw[B] at w;exact Fq τ u (bI (bI g).1).1 (bI (bI g).1).2 (bI g).2 i w fun p w=>j p rfl w
 |l x A b=>
  refine isTrue_IfExp (U u (bI (bI g).1).1 i w fun P υ w=> ?_);subst υ;rename_i V _ _ _ _;induction V with
  |true=>exact U u (bI (bI g).1).2 P.k w fun α B w=>j (P.tr α).low B w
  |false=>exact U u (bI g).2 P.k w fun α B w=>j (P.tr α).low B w
 |f x=>
  have w:aQ X Z (match bG x L with
   |some (.l d)=>aT.b (hG d) fun b=>K b L Y
   |some (.own C)=>aT.b (hG C.frz) fun b=>K b L Y
   |some (.a C)=>aT.b (hG C.frz) fun b=>K b L Y
   |none=>.a):=w
  induction F:bG x L with
  |none=>have w:=F▸w;exact w.elim
  |some η=>
   rw[F] at w;refine ay (i.fr x η F) fun V φ β=> ?_;have θ {l:Bool} {p:b0} (χ:bG x L=ac (gS l p)) (ψ:∃A,V=am A∧G A=ac (bQ l x)) (w:aQ X Z (aT.b (hG p.frz) fun b=>K b L Y)):aH (aN aC C.w) C.A (rC V) Q E S:=by
    refine ay ψ fun A y t=> ?_;subst y;obtain⟨o,ω,a₅,ι,a₀⟩:=i.ok _ _ t;rw[χ] at ι;cases(kG (bD ι)).2;refine ay w ?_;clear w;intro b I w;induction p with
    |e _=>injection I
    |c a₆=>
     refine cE a₀ fun a₇ n a₁ κ z=> ?_;subst a₁;injection I with I;subst I;refine SB ⟨_,ω,rfl,n,rfl⟩ (by rw[d2,κ.len];exact oP (jj▸z)) ?_;rw[DK,κ.d];exact j (.of (i.tok _)) rfl w
   refine isTrue_plain (pX u g φ ?_);induction η with
   |l d=>exact w.elim fun V g=>sP i g.1 β fun t=>j (.of (i.tok t)) rfl g.2
   |own p=>exact θ (l:=ai) F β w
   |a p=>exact θ (l:=af) F β w
 |h d=>exact ε K4 i w j
 |_=>exact ε rfl i w j
end
variable{wn:bZ×Nat}
noncomputable def xF (m:bt):Bool:=match m with
 |.comp _ _ _ _=>af
 |_=>ai
noncomputable def wa (m:bt):Bool:=match m with
 |.j _=>af
 |_=>ai
mutual
noncomputable def fX (S:gM):ej→di→Bool
 |.v,_=>af
 |.d m,s=>cb S m (cK s)&& !xF m
 |.h m,s=>cb S m (cK s)
 |.set x m,s=>iF S x&&cb S m (cK s)&& !xF m
 |.g x e,s=>iF S x&&eQ S e (ep (cK s))
 |.p x,_=>iF S x
 |.j x a t I f,s=>iF S x&&cb S (dY a t I f) (cK s)
 |.u x a,s=>iF S x&&cb S (ap 18 [a]) (cK s)
 |.names X m,s=>sL S (.b X)&&cb S m (cK s)&& !wa m
 |.attr a _ m,s=>cb S a (bA 0 (dz s))&&cb S m (cK s)
 |.k a _ e,s=>cb S a (bA 0 (dz s))&&eQ S e (ep (cK s))
 |.n a _,s=>cb S a (bA 0 (dz s))
 |.sub a i m,s=>cb S a (bA 0 (dz s))&&cb S i (bA 1 (dz s))&&cb S m (cK s)
 |.B x _ m,s=>iF S x&&cb S m (cK s)
 |.q a _ _ m,s=>cb S a (bA 0 (dz s))&&cb S m (cK s)
 |.f t I b,s=>sL S t&&cb S I (cK s)&&BJ S b (mS s).1
 |.m c b,s=>cb S c (cK s)&&BJ S b (mS s).1
 |.l c a b,s=>cb S c (cK s)&&BJ S a (mS s).1&&BJ S b (mS s).2
 |.del a i,s=>cb S a (bA 0 (dz s))&&cb S i (bA 1 (dz s))
 |.w a i,s=>cb S a (bA 0 (dz s))&&cb S i (bA 0 (bA 1 (dz s)))
 |.y,_=>af
 |.o,_=>af
 |.cont,_=>af
noncomputable def BJ (S:gM):List ej→List di→Bool
 |[],_=>af
 |m::r,d=>fX S m (d.headD (uG ⟨0,0,0,0⟩))&&BJ S r d.tail
end
def nx (wn:bZ×Nat) (X:dT) (Z:d1→Prop) (r:gv):Prop:=∀{c m s G},bj wn c→BJ c.sc m s=af→rS X Z c (kD m) G (r.ss m) (execs (zB m s) c.env)
section
variable{Y:ar}
theorem AF (h:cb s m e=af) (c:xF m=ai) {l:Nat}:pL (bz m e) t l E=dm false:=by
 induction m using bt.casesOn with
 |v=>exact aR h cp
 |comp a t i f=>injection c
 |h d=>
  refine(?_:pL (gU d e) t l E=_);unfold gU;cases(fK e).c with
  |some q=>rfl
  |none=>induction d using aj.casesOn<;>first|rfl|(cases(fK e).un<;>rfl)
 |_=>rfl
theorem bj.p (o:bj wn c):interactive c.env=false:=by unfold interactive;refine ak o.l ?_;rfl
def f3 (X:dT) (Z:d1→Prop) (l:Nat) (r:gv) (c:dr) (G:bN) (m:ej) (s:di):Prop:=rS X Z c m.simple G (Cn l r m) (ot (IB m s) c.env)
section
theorem Ju (R:b2 wn X Z r) (o:bj wn c) (h:fX c.sc (.d m) S=af):f3 X Z l r c G (.d m) S:=by
 intro L Y s e Q E k w q;obtain⟨a,b⟩:=bI h;exact wpAny_Expr_any (R o a k w fun p d w=>q (f:=a') p.l.low p.k rfl (f6 w).2) o.p (AF a (ml b))
theorem KU (R:b2 wn X Z r) (o:bj wn c) (h:fX c.sc (.h m) S=af):f3 X Z l r c G (.h m) S:=by
 intro L Y s a Q E k w q;exact wpAny_Return_some (R o h k w fun p d w=>q (f:=.h _) p.l.low p.k (bd _ rfl d) w)
theorem NS (R:b2 wn X Z r) (o:bj wn c) (h:fX c.sc (bg x m) S=af):f3 X Z v r c G (bg x m) S:=by
 intro L Y s j Q E k w q;obtain⟨h,b⟩:=bI h;obtain⟨e,a⟩:=bI h;refine t9 (R o a k w fun p d w=> ?_) (AF a (ml b));obtain⟨n,w⟩:=oF w;exact s0 o p.k e n d fun g t l i k=>q (f:=a') (p.l.same (l.le fun _=>rfl)) k rfl w
theorem A7 (R:b2 wn X Z r) (f:bj wn c) (h:eQ c.sc e l=af) {K:List aj→au→ar→aT} (k:aU c G L Y s) (w:aQ X Z (if e.length≤1000 then g2 r e L Y K else .a)) (q:∀{ds a st' g S D o},bT ai c G g a st' S→g D=ah→S.heap.get? D=ac o→cQ c.w g o (.c ds)→aQ X Z (K ds a st')→Q (am D) S):aH (aN aC c.w) c.A (bO (pR (dJ e l) pos) c.env) Q E s:=by
 refine(f6 w).elim fun z w=> ?_;rw[arm_eval_List];refine aG (fw (aG (th R f h k w fun p d w=> ?_)));have b:=qA (d.2▸z);refine EF (q (p.push _) p.k.B (g4 _ rfl) (er _ _ rfl d.1 b) w) (by rw[d.1.len];exact b)
theorem CO (k:aU c G L Y s) (q:∀{S D o},bT ai c G G L Y S→G D=ah→S.heap.get? D=ac o→cQ c.w G o (.e [])→Q (am D) S):aH (aN aC c.w) c.A (bO (uH [] [] pos) c.env) Q E s:=
 SP (q ((bT.of (b:=ai) k).push {cls:=bn "dict",data:=k9 #[]}) k.B (g4 _ rfl) (Cv c G))
theorem OH (R:b2 wn X Z r) (o:bj wn c) (h:fX c.sc (.g x e) S=af):f3 X Z v r c G (.g x e) S:=by
 intro L Y s j Q E k w q;obtain⟨a,b⟩:=bI h;refine t9 (A7 R o b k w fun p n d i w=> ?_) rfl;obtain⟨N,w⟩:=oF w;exact sd (q:=.c _) o p.k a N n d i fun g m l k=>q (f:=a') (p.l.same (l.le fun _=>rfl)) k rfl w
theorem K9 (o:bj wn c) (h:fX c.sc (.p x) S=af):f3 X Z v r c G (.p x) S:=by
 intro L Y s a Q E k w q;obtain⟨N,w⟩:=oF (show aQ X Z (jv x (bE (.e [])) L fun L=>a a' L Y) from w);exact t9 (CO k fun p n b R=>(sd (q:=.e []) o p.k h N n b R fun g d l k=>q (f:=a') (p.l.same (l.le fun _=>rfl)) k rfl w)) rfl
theorem Fb (U:hI wn X Z r) (V:nx wn X Z r) (o:bj wn c) {mb:List ej} (h:fX c.sc (.l m M mb) S=af):f3 X Z i r c G (.l m M mb) S:=by
 intro L Y s j Q E k w q;obtain⟨h,b⟩:=bI h;obtain⟨d,g⟩:=bI h;refine wpAny_If (U o d k w fun p e w=> ?_);subst e;rename_i v _ _ _ _;have a (h:(ej.l m M mb).simple=af):(m.simple=af∧kD M=af)∧kD mb=true:=by
  have h:=h;exact⟨bI (bI h).1,(bI h).2⟩
 induction v with
 |true=>exact V o g p.k w fun l k f w=>q ((p.l.le fun h=>(a h).1.1).same (l.le fun h=>(a h).1.2)) k f w
 |false=>exact V o b p.k w fun l k f w=>q ((p.l.le fun h=>(a h).1.1).same (l.le fun h=>(a h).2)) k f w
end
end
section
variable{c:dr} {Y:ar}
theorem Jt {E:List c6} {l:Nat} (h:cb s m e=af) (a:wa m=ai):swapsWithSole [ol E k p] (bz m e) l b=dm false:=by
 induction m using bt.casesOn with
 |v=>exact aR h cp
 |j _=>exact nomatch a
 |h d=>
  show swapsWithSole _ (gU d e) _ _=_;unfold gU;cases(fK e).c with
  |some q=>rfl
  |none=>induction d using aj.casesOn<;>first|rfl|(induction(fK e).un<;>rfl)
 |_=>rfl
theorem Ka {E:List c6} (h:cb s m e=af) (a:wa m=ai):swappedStores [ol E k p] (bz m e) b=dm none:=by
 induction m using bt.casesOn with
 |v=>exact aR h cp
 |j _=>exact nomatch a
 |h d=>
  show swappedStores _ (gU d e) _=_;unfold gU;cases(fK e).c with
  |some q=>rfl
  |none=>induction d using aj.casesOn<;>first|rfl|(induction(fK e).un<;>rfl)
 |_=>rfl
theorem K8 (R:b2 W X Z r) (o:bj W c) (h:fX c.sc (kn x m) S=af):f3 X Z l r c G (kn x m) S:=by
 intro L Y s b Q E k w q;have h:=bI h;have a:=ml h.2;have h:=bI h.1;exact Assign_Tuple (R o h.2 k w fun p d w=>vE (e:=dz S) o p.k h.1 d w fun P w=>q (f:=a') (p.low.tr P).l P.k rfl w) (Jt h.2 a) (Ka h.2 a)
theorem Iz {a:br}:ot (iZ [iu o a t] V pos) c.env=(do uA pos;let v←bO V c.env;uE (iu o a t) c.env v;dm h6):=by
 have h:pL V (ac (iu o a t)) pos.line c.env=dm false:=by cases V<;>rfl
 have e:ot (iZ [iu o a t] V pos) c.env=(do
   uA pos
   if←pL V (ac (iu o a t)) pos.line c.env then
    evalThenUse V c.env (uE (iu o a t) c.env)
    return h6
   let v←bO V c.env
   uE (iu o a t) c.env v
   dm h6):=rfl
 rw[e,h];rfl
theorem wb {a:br} (h:aH (aN aC c.w) c.A (bO V c.env) (fun v S=>aH (aN aC c.w) c.A (bO o c.env) (fun b d=>aH (aN aC c.w) c.A (uB b a v) (fun _=>Q h6) E d) E S) E s):
  aH (aN aC c.w) c.A (ot (iZ [iu o a t] V pos) c.env) Q E s:=by
 rw[Iz];refine aG (fw (aG (d9 h (fun v S e=> ?_) fun _ _ x=>x)));rw[arm_assign_Attribute];exact aG (aG (eF (d9 e (fun b d f=>aG (fw (aG (eF (d9 f (fun _ i g=>EE (bo g)) fun _ _ x=>x))))) fun _ _ x=>x)))
theorem vL (w:aQ X Z (pg d k)):∃j,d=an j∧aQ X Z (k j):=by
 cases d with
 |inst j=>exact⟨j,rfl,w⟩
 |_=>exact w.elim
theorem vK (w:aQ X Z (l8 j x v Y k)):∃st',nq j x v Y=ac st'∧aQ X Z (k st'):=by
 unfold l8 at w;cases e:nq j x v Y with
 |none=>rw[e] at w;exact w.elim
 |some st'=>rw[e] at w;exact⟨st',rfl,w⟩
theorem P9 (R:b2 W X Z r) (o:bj W c) (h:fX c.sc (eW a x m) S=af):f3 X Z v r c G (eW a x m) S:=by
 intro L Y s n Q E k w q;obtain⟨b,i⟩:=bI h;refine wb (R o i k w fun p d w=>R o b p.k w fun P D w=> ?_);obtain⟨j,rfl,w⟩:=vL w;obtain⟨u,e,w⟩:=vK w;obtain⟨A,rfl,t⟩:=D;exact Au P.k t e (d.mono P.l.ld) fun g y l _ k=>q (f:=a') ((p.low.tr P).l.tr l) k rfl w
theorem z6 (R:b2 W X Z r) (y:bj W c) (h:cb c.sc a ea=af) {D:bp} {K:cR→au→ar→aT} {Q:Flow→ct→Prop} (p:bT ai c G g L Y s) (n:g D=ah) (B:s.heap.get? D=ac o) (C:cQ c.w g o pc.frz)
  (w:aQ X Z (r.e a L Y fun d L Y=>pg d fun j=>l8 j x (b1 pc) Y fun Y=>K a' L Y)) (q:∀{f i st' b F S},bV ai G b→aU c b i st' S→oW b f F→aQ X Z (K f i st')→Q F S):aH (aN aC c.w) c.A (bO (bz a ea) c.env) (fun v I=>aH (aN aC c.w) c.A (uB v (cW x) (am D)) (fun _=>Q h6) E I) E s:=by
 have M:=p.k.keep n B;have m:bV af g (dt g D (.a o)):=jP n;refine R y h M w fun P N w=> ?_;obtain⟨j,rfl,w⟩:=vL w;obtain⟨st',e,w⟩:=vK w;obtain⟨A,rfl,t⟩:=N;have T:=P.l D (.a o) trivial hX;have U:=(P.k.ok _ _ T).elim fun β z=>z.2▸z.1;have V:=P.k.rm (p.k.gb n) T;have α:=s6 (m.low.tr P.l) n;have u:=sN T;refine Nu V (u _ _ trivial t) e tO U (((C.mono m.ld).mono P.l.ld).mono u) fun b S l _ k=>q (f:=a') ((p.l.tr α).tr l) k rfl w
theorem Mj (R:b2 W X Z r) (o:bj W c) (h:fX c.sc (.k a x e) S=af):f3 X Z v r c G (.k a x e) S:=by
 intro L Y s j Q E k w q;obtain⟨b,d⟩:=bI h;exact wb (A7 R o d k w fun p n g i w=>z6 (pc:=.c _) R o b p n g i w fun l k f w=>q (l.le fun h=>nomatch h) k f w)
theorem PC (R:b2 W X Z r) (o:bj W c) (h:fX c.sc (.n a x) S=af):f3 X Z v r c G (.n a x) S:=by
 intro L Y s e Q E k w q;exact wb (CO k fun p n b d=>z6 (a:=a) (ea:=bA 0 (dz S)) (pc:=.e []) R o h p n b d w fun l k f w=>q (l.le fun h=>nomatch h) k f w)
theorem z_ (k:aU c G L Y s) {a b:aj} (e:(vW.B o a b).e=ac d) (D:a8 G a m) (n:a8 G b V) (h:∀{v S},aU c G L Y S→a8 G d v→Q v S):aH (aN aC c.w) c.A (EW o m V) Q E s:=by
 cases a with
 |int i=>
  obtain⟨t,rfl⟩:=D;have l {f:Int→Int→Option aj} (e:iB f (ae i) b=ac d) (g:∀j u,f i j=ac d→aH (aN aC c.w) c.A (EW o (aq i t) (aq j u)) Q E s):aH (aN aC c.w) c.A (EW o (aq i t) V) Q E s:=by
   obtain⟨I,j,p,rfl,e⟩:=sO e;cases p;obtain⟨u,rfl⟩:=n;exact g j u e
  have F {j:Int} (e:ac (ae j)=ac d):Q (aq j s.toks) {s with toks:=s.toks+1}:=h (k.tok _) (bD e▸⟨_,rfl⟩);cases o with
  |Add=>have e:eJ b9 (ae i) b=ac d:=e;exact l e fun j u e=>Tl (F e)
  |Sub=>have e:eJ fU (ae i) b=ac d:=e;exact l e fun j u e=>Tk (F e)
  |BitOr=>have e:eJ iw (ae i) b=ac d:=e;exact l e fun j u e=>ior_int (F e)
  |_=>cases e
 |_=>cases e
theorem GZ (R:b2 W X Z r) (y:bj W c) (h:fX c.sc (.q a x o m) S=af):f3 X Z α r c G (.q a x o m) S:=by
 intro L Y s z Q E k w q;obtain⟨B,C⟩:=bI h;show aH _ _ (ot (uq (iu (bz a (bA 0 (dz S))) (cW x) (dz S).pos) o (bz m (cK S)) S.pos) c.env) Q E s;rw[arm_exec_AugAssign_2];refine aG (fw (aG (R y B k w fun p d w=> ?_)));obtain⟨j,rfl,w⟩:=vL w;obtain⟨A,rfl,t⟩:=d;rename_i F i β γ _;have w:aQ X Z (match ib j x i with
  |some (.l v)=>r.e m F i fun b L Y=>e_ (.B o v b) fun d=>l8 j x (.l d) Y fun Y=>z a' L Y
  |_=>.a):=w
 cases g:ib j x i with
 |none=>rw[g] at w;exact w.elim
 |some I=>
  rw[g] at w;cases I with
  |box _=>exact w.elim
  |l δ=>
   refine aG (eF (aG (fw (aG (AG p.k t g fun u T n=> ?_)))));obtain⟨_,n,D⟩:=n;cases n;refine aG (eF (R y C (p.k.tok T) w fun P M w=>aG (fw (wpAny_operate' ?_))));obtain⟨d,N,w⟩:=w;refine z_ P.k N (D.mono P.l.ld) M fun k U=> ?_;obtain⟨ε,e,w⟩:=vK w;exact aG (fw (aG (eF (Au k (P.l A (ga j) trivial t) e U fun ζ η V _ k=>aG (EE (bo (q (f:=a') ((p.low.tr P.low).l.tr V) k rfl w)))))))
theorem LV (B:en W.1 mg mb) (R:b2 W X Z r) (V:∀{Z},nx W m Z r) (o:bj W c) (h:fX c.sc (.f t n a) u=af)
  (A:∀{p f L Y},X.sub (.a v p) f L Y→p.c=ah→aQ m (·=(f,L,Y)) (kI r p.body p.t (gy p.b p.d) (p.L.map (·.1)) p.d p.L p.st dW)):f3 X Z v r c G (.f t n a) u:=by
 intro L Y s K Q E k w q;obtain⟨h,C⟩:=bI h;obtain⟨D,e⟩:=bI h;have B:en c.w mg mb:=by obtain rfl:=o.r;exact B
 refine wpAny_For (Bh (K:=fun d b L Y=>if b.isNone||kD a then l1 (.a v ⟨a,ah,t,b,d,L,Y⟩) K else .a) B R o e k w fun S w=> ?_) (fun x=>(hO e).fold _ x)
 rename_i d M β γ g I δ;obtain⟨N,w⟩:=f6 w;obtain⟨f,T,U,j,w⟩:=w;obtain⟨P,i,α⟩:=S.a;exact Ol (b:=kD a) (z:=(f,T,U)) (fun{Z G}=>V o C) o D (fun z=>((dK ..).mp N).resolve_left fun y=>by clear S i j w;cases M<;>first|(cases z;done)|(cases y;done)) i (fun l k F=>q (S.p.l.tr l) k F w) S.p.k S.free α S.box (A j rfl)
theorem Ql (U:∀{Z},hI W x Z r) (V:∀{Z},nx W x Z r) (o:bj W c) (h:fX c.sc (.m m b) S=af)
  (a:∀{p f L Y},X.sub (.a v p) f L Y→∀{m},p.c=ac m→aQ x (·=(f,L,Y)) (l3 r m p.body (p.L.map (·.1)) dW pi p.L p.st)):f3 X Z v r c G (.m m b) S:=by
 intro L Y s n Q E k w q;obtain⟨d,e⟩:=bI h;obtain⟨f,g,i,j,w⟩:=w;exact wpAny_While (Ny (z:=(f,g,i)) (bb:=kD b) U o d (fun{Z G}=>V o e) (fun l k F=>q l k F w) k (a j rfl))
end
theorem GH:∀(vs:List aV) (j:Nat),j+vs.length=L→(∀x k,F (x,k)=if(aM (n≤k)&&aM (k<L))=af then ah else ac x)→(vs.zipIdx j).filterMap F=vs.take (n-j):=by
 intro vs;induction vs with
 |nil=>
  intro j _ _;simp
 |cons v vs i=>
  intro j l a;rw[R_,List.filterMap_cons,a];have i:=i (j+1) (by rw[mY] at l;exact e8 (b6 (.c 1 (.a .b (.a .f .n1)) .g (.g 1 (.a (.a .b .n1) .f) .g)) rfl (a9 l)) (b6 (.c 1 .b (.a .f (.a .g .n1)) (.g 1 .b (.a (.a .f .n1) .g))) rfl (a9 (cB l)))) a;have b:j<L:=by rw[mY] at l;exact b6 (.c 1 (.a .b (.a .f .n1)) .g (.g 1 (.a .b .n1) .g)) rfl (a9 l)
  by_cases h:n≤j
  ·simp only[h,b,decide_true,Ei,if_true];rw[i,show n-(j+1)=0 by exact e8 (uz (EB (j+1) (n)) (fun y=>b6 (.c 1 .b .f (.c 1 (.a .g (.a .f .n1)) .b (.g 1 .g .n0))) rfl h (a9 (fi y))) fun y=>dN (.c 1 .b .n0 (.g 1 .b .n0)) rfl (a9 (tX y))) (dN (.g 1 .n0 .b) rfl),show n-j=0 by exact e8 (uz (EB (j) (n)) (fun y=>b6 (.c 1 .b .f (.c 1 (.a .g .f) .b (.g 1 .g .n0))) rfl h (a9 (fi y))) fun y=>dN (.c 1 .b .n0 (.g 1 .b .n0)) rfl (a9 (tX y))) (dN (.g 1 .n0 .b) rfl)];simp
  ·simp only[h,decide_false,yf,x1,if_false];rw[i,show n-j=(n-(j+1))+1 by exact e8 (b8 (.c 1 .b (.a .f (.a .g .n1)) (.c 1 (.a .j .g) .b (.g 1 .j (.a .f .n1)))) rfl (g3.mp (bv (n-(j+1)))) (a9 (fi (show j≤n from cD (.c 1 (.a .b .n1) .f (.g 1 .b .f)) rfl (f' h))))) (b8 (.c 1 .b (.a .f .g) (.c 1 (.a .j (.a .g .n1)) .b (.g 1 (.a .j .n1) .f))) rfl (g3.mp (bv (n-(j)))) (a9 (fi (f' h)))),List.take_succ_cons]
section
variable{c:dr} {Y:ar}
theorem Je {a:bp} {m:Nat} (o:s.heap.get? a=ac (d5 vs m)) (l:s.heap.IsSliceOf sl (aq i t) dj dj) (p:0≤i) (hz:vs.length≤fR)
  (h:∀h' M,hC a s.heap h'→h'.get? a=ac (d5 (vs.take i.toNat) M)→Q () {s with heap:=h'}):aH (aN aC c.w) c.A (delItem (am a) (am sl)) Q E s:=by
 refine eB (id l) fun q d r e=> ?_;have g:s.TypeIs (am sl) "slice":=bd q d r;have T:s.TypeIs (am a) "list":=bd _ o rfl;refine Sr T (by decide) Q3 (pA Q3 T PySem.F.entry_list_delitem ((aG (aG (uc g slice_no_index ?_))):aH _ _ (T9 (am sl)>>=_) _ _ s) (PySem.F.args_list_delitem_2 _ _));simp only[Option.isNone_none,if_true];refine bo (aG (EM g ?_));rw[aL (by decide)];rw[listSliceParts_eq];refine aG (aG (ry d e rfl (aG (Er rF (ak (aL (show¬((rawPart ah==oj 0)=af) from cp)) (aG (ry d e rfl (aG (Er (.int i t) (aG (ry d e rfl (aG (Er rF (bo (aG (aG (wpAny_seqItems o rfl (bo (aG (ys (sliceIndices_raw (ac i) ah ah vs.toArray.size (fun h=>(by injection h))) ?_))))))))))))))))))));obtain⟨j,rfl⟩:=Ro p;have b:EO (ac (j:Int)) ah ah vs.toArray.size=(((hF j vs.length:Nat):Int),((vs.length:Nat):Int),1):=(kms_bounds ..).trans (by rw[tD,d2];rfl);refine ak b (aG (yw ?_));have n:∀F:aV×Nat→Option aV,(∀x k,F (x,k)=if(aM ((hF j vs.length:Nat)≤k)&&aM (k<vs.length))=af then ah else ac x)→Q () {s with heap:=s.heap.update a (uo fun X=>(X.toList.zipIdx.filterMap F).toArray)}:=by
  intro F u;obtain⟨M,v⟩:=s3 (f:=fun X=>(X.toList.zipIdx.filterMap F).toArray) o (by
   have:=GH vs 0 (e8 (dN (.g 1 (.a .n0 .b) .b) rfl) (dN (.g 1 .b (.a .n0 .b)) rfl)) u;rw[this,Ew,←List.take_eq_take_min])
  exact h _ M (nT ..) v
 refine aG (wpAny_updateSeq o rfl ?_ (by refine ak d2 ?_;exact hz) ?_)
 ·refine aG (EN (bo (bd _ rfl (n _ fun x k=> ?_))))
  show(if(if(1:Int)>0 then(aM (((hF j vs.length:Nat):Int)≤(k:Int))&&aM ((k:Int)<((vs.length:Nat):Int))&&(((k:Int)-((hF j vs.length:Nat):Int))%1==0))
   else(aM (((vs.length:Nat):Int)<(k:Int))&&aM ((k:Int)≤((hF j vs.length:Nat):Int))&&((((hF j vs.length:Nat):Int)-(k:Int))%(-1)==0)))=af then ah else ac x)=_
  rw[aJ (show(1:Int)>0 by decide)];simp only[Int.emod_one,iX,n9,gq,g5]
 ·exact ak d2 (ao (List.length_filterMap_le _ _) (ak pu (rf hz)))
theorem aU.slNow {a:bp} (k:aU c G L Y s) (t:G a=ac (bQ l x)) (p:bT bb c G g d m S) (h:gV x d=ac q):g a=ac (bQ l x)∧bG x d=ac (gS l q)∧∃o,S.heap.get? a=ac o∧cQ c.w g o q.frz:=by
 refine(nQ h).elim fun f e=>ay (p.k.peek e) fun b _ T=> ?_;have j:=p.h _ _ _ T;obtain⟨_,_,z,i,_⟩:=k.ok _ _ j;obtain⟨_,_,Z,I,_⟩:=k.ok _ _ t;rw[I] at i;obtain⟨rfl,_⟩:=kG (bD i);cases k.solo _ _ (bQ l x) trivial t j;exact fe T e ((p.k.slAt T h).2)
theorem F4 (h:i4 i n=ac j):j<n:=by
 unfold i4 at h;split at h
 ·obtain⟨a,e⟩:=du h;injection e with e;subst e;exact(yj ‹0≤i›).mpr a
 ·obtain⟨a,e⟩:=du h;injection e with e;subst e;exact(yj a).mpr (R7 (RL (oa.mp ‹_›) n) (yk (ED _)))
theorem zz (C:bj w c) (k:aU c G L Y s) {a:bp} (e:gW q i d=ac I) (b:s.heap.get? a=ac o) (r:cQ c.w G o q.frz) (D:a8 G i V) (x:a8 G d v)
  (h:∀{h' tk p},hC a s.heap h'→h'.get? a=ac p→cQ c.w G p I.frz→Q () {s with heap:=h',toks:=tk}):aH (aN aC c.w) c.A (setItem (am a) V v) Q E s:=by
 induction q with
 |c N=>
  refine ay (mK e) fun n P e=> ?_;subst P;refine ay (dg.mp e) fun j A y=> ?_;subst y;obtain⟨t,rfl⟩:=D;refine cE r fun S m y R z=> ?_;subst y;refine iN (rO A z) fun _ T U W=> ?_;have u:S.toArray.size=N.length:=by rw[d2,R.len]
  have F:∀k:Nat,k=j→Q () {s with heap:=s.heap.update a (uo (·.setIfInBounds k v))}:=by
   rintro k rfl;obtain⟨M,X⟩:=s3 (f:=(·.setIfInBounds k v)) b (List.setIfInBounds_toArray ..);exact h (nT ..) X (er _ M rfl (R.set x k) (by rw[List.length_set];exact z))
  have Z:=F4 A;rcases W with⟨g,l⟩|⟨g,l,α⟩
  ·exact ki_setAt b g U (by rw[u];exact(Int.toNat_lt g).mp (l▸Z)) (F _ l)
  ·exact ki_setBack b g (by rw[u];exact l) T (F _ (by rw[u];exact α))
 |e ε=>
  refine(du e).elim fun B e=> ?_;injection e with e;subst e;exact Gd C k b r B.1 D B.2 x fun h' t p β γ δ=>h β γ δ
theorem Qd {l:Nat} (h:cb s m e=af):pL (bz m e) (ac (pH t i p)) l E=dm false:=by
 induction m using bt.casesOn with
 |v=>exact aR h cp
 |h d=>
  show pL (gU d e) _ _ _=_;unfold gU;cases(fK e).c with
  |some q=>rfl
  |none=>induction d using aj.casesOn<;>first|rfl|(induction(fK e).un<;>rfl)
 |_=>rfl
theorem Ak (e:(ou Q j D).e=ac (d,a)):gW Q j D=ac a:=(dg.mp e).elim fun q h=>h.1.trans (aS (fun p=>ac p.2) h.2)
theorem Ni {K:cR→au→ar→aT} (w:aQ X Z (qw y q L Y K)):∃l,jt y q L=ac l∧aQ X Z (K a' l Y):=by
 unfold qw at w;cases h:jt y q L with
 |none=>rw[h] at w;exact w.elim
 |some l=>rw[h] at w;exact⟨l,rfl,w⟩
theorem Mw {K:cR→au→ar→aT} (w:aQ X Z (nL k y q L Y K)):∃s,gk k y (b1 q) Y=ac s∧aQ X Z (K a' L s):=by
 unfold nL at w;cases h:gk k y (b1 q) Y with
 |none=>rw[h] at w;exact w.elim
 |some s=>rw[h] at w;exact⟨s,rfl,w⟩
theorem Qh {K:cR→au→ar→aT} (w:aQ X Z (u5 D j (g9 y) L Y K)):∃q Q,gV y L=ac q∧gW q j D=ac Q∧aQ X Z (qw y Q L Y K):=by
 have w:aQ X Z (match gV y L with|some c=>aT.c (ou c j D) fun _ c=>qw y c L Y K|none=>.a):=w
 cases h:gV y L with
 |none=>rw[h] at w;exact w.elim
 |some q=>rw[h] at w;exact bK w fun d Q e w=>⟨q,Q,rfl,Ak e,w⟩
theorem OP {K:cR→au→ar→aT} (w:aQ X Z (u5 D j (dI (da k y)) L Y K)):∃q Q,dR k y Y=ac q∧gW q j D=ac Q∧aQ X Z (nL k y Q L Y K):=by
 have w:aQ X Z (match dR k y Y with|some c=>aT.c (ou c j D) fun _ c=>nL k y c L Y K|none=>.a):=w
 cases h:dR k y Y with
 |none=>rw[h] at w;exact w.elim
 |some q=>rw[h] at w;exact bK w fun d Q e w=>⟨q,Q,rfl,Ak e,w⟩
theorem JV (R:b2 W X Z r) (u:bj W c) (h:fX c.sc (eV a i m) S=af):f3 X Z v r c G (eV a i m) S:=by
 intro L Y s ζ Q E k w q;have h:=bI h;have V:=h.2;have h:=bI h.1;refine wpAny_Assign_Subscript (R u V k w fun p d w=>lb R u h.1 p.k w fun{z _ _ _ _ _} x C w=>(f6 w).elim fun α w=>R u h.2 x.k w fun P D w=> ?_) (Qd V);have l:bV (eV a i m).simple G _:=((p.l.le fun h=>(bI h).2).same (x.l.le fun h=>(bI (bI h).1).1)).same (P.l.le fun h=>(bI (bI h).1).2);have d:=(d.mono x.l.ld).mono P.l.ld;induction z with
 |slot y=>
  exact bK C fun A b e t=>cE (Qh w) fun β γ B n w=>ay (Ni w) fun η F w=>dM (x.k.slNow t P B) fun T g z=>ay z fun o I M=>
   e▸zz u P.k n I M D d fun n N U=>q (f:=a') l ((vh g F).symm▸P.k.poke T g n N U) rfl w
 |sq δ=>
  induction δ using aj.casesOn with
  |box j y=>
   exact ay C.bx fun A e t=>cE (OP w) fun β γ B n w=>ay (Mw w) fun θ F w=>
    have T:=P.l A (cJ j y) (av (uO α rfl)) t
    (P.k.box T B).elim fun ε z=>ay z fun o I M=>e▸zz u P.k n I M D d fun n N U=>q (f:=a') l (P.k.pokeB T ε n N U (ql F)) rfl w
  |_=>exact w.elim
theorem zG (h:aH (aN aC c.w) c.A (bO o c.env) (fun v S=>aH (aN aC c.w) c.A (bO i c.env) (fun I a=>aH (aN aC c.w) c.A (delItem v I) (fun _=>Q h6) E a) E S) E s):
  aH (aN aC c.w) c.A (ot (yF [pH o i t] pos) c.env) Q E s:=by
 rw[arm_exec_Delete,arm_deleteEach_cons,arm_delete_Subscript,arm_deleteEach_nil];exact aG (fw (aG (aG (aG (d9 h (fun v S b=>(aG (eF (d9 b (fun I a d=>(aG (fw (aG (eF (d9 d (fun _ f e=>EE (bo (bo e))) fun _ _ x=>x)))))) fun _ _ x=>x)))) fun _ _ x=>x)))))
end
open scoped Classical
section
variable{Y:ar}
theorem IN (o:bj w c) (h:oy c.sc x=af) (p:iE G s.heap x v (c.pl x)) (q:Q v s):aH (aN aC c.w) c.A (loadName c.env (b_ x)) Q E s:=by
 rcases(zs h).imp v_ id with(e|e)|e
 ·obtain⟨a,b⟩:=o.loc x e;rw[b] at p;obtain⟨_,_,m,n,e⟩:=p;exact wpAny_loadName_local o.l a n e q
 ·obtain⟨a,d,b,e⟩:=o.cell x e;rw[e] at p;exact wpAny_loadName_cell o.l a b p.2.2 q
 ·obtain⟨a,d,b,e⟩:=o.free x e;rw[e] at p;exact a.elim (fun a=>wpAny_loadName_cell o.l a b p.2.2 q) fun a=>Sl o.l a b p.2.2 q (zg _ (wv p.1)).2
theorem GC (R:b2 W X Z r) (t:bj W c) (h:fX c.sc (.B x o m) S=af):f3 X Z α r c G (.B x o m) S:=by
 intro L Y s B Q E k w q;obtain⟨C,M⟩:=bI h;have N:oy c.sc x=true:=(dK ..).mpr (av C);have w:aQ X Z (match lJ x L with
  |some (A,L)=>r.e m L Y fun b L Y=>e_ (.B o A b) fun d=>jv x (.l d) L fun L=>B a' L Y
  |none=>.a):=w
 have F {u:aj} {I:au} {g:bN} {v:aV} (p:bT af c G g I Y s) (P:iE G s.heap x v (c.pl x)) (D:a8 g u v) (w:aQ X Z (r.e m I Y fun b L Y=>e_ (.B o u b) fun d=>jv x (.l d) L fun L=>B a' L Y)):aH (aN aC c.w) c.A (ot (uq (ey (b_ x) (dz S).pos) o (bz m (cK S)) S.pos) c.env) Q E s:=by
  refine wpAny_AugAssign_Name (IN t N P (R t M p.k w fun z T w=>(ay w ?_)));clear w;intro d e w;refine z_ z.k e (D.mono z.l.ld) T fun k D=> ?_;obtain⟨n,w⟩:=oF w;exact s0 t k C n D fun β γ U i k=>q (f:=a') ((p.low.tr z).l.tr U) k rfl w
 unfold lJ at w;induction j:bG x L with
 |none=>have w:=j▸w;exact w.elim
 |some V=>
  rw[j] at w;induction V with
  |a _=>exact w.elim
  |l u=>exact(k.fr x _ j).elim fun v y=>F (.of k) y.1 y.2 w
  |own δ=>exact k.own j fun ε g P p D=>F p P D w
theorem Pd (f:b→β) (l:List b):∀(j:Nat),(l.map f).eraseIdx j=(l.eraseIdx j).map f:=by
 induction l with
 |nil=>exact fun _=>rfl
 |cons a l i=>intro j;induction j using ir with
  |zero=>rfl
  |succ j=>exact aS (f a::·) (i j)
noncomputable def mo (X:List (i'×bp×aV)) (k:i'):List (i'×bp×aV):=X.filter fun x=>aM (x.1≠k)
theorem Np (k:i'):∀{X:List (i'×bp×aV)},k∉X.map (·.1)→mo X k=X:=by
 intro X h;unfold mo;rw[DR];intro x a;rw[n6];rintro rfl;exact h (cr.mpr (bd x a rfl))
section
theorem Gy (k:i'):∀{X:List (i'×bp×aV)} {j:Nat} {p:bp×aV},(X.map (·.1)).Nodup→X[j]? =ac (k,p)→X.eraseIdx j=mo X k:=by
 intro X;induction X with
 |nil=>intro j p _ h;simp at h
 |cons x r i=>
  intro j p n h;rw[eE,gn] at n;induction j using ir with
  |zero=>
   simp only[List.getElem?_cons_zero,lN] at h;subst h;have:=Np k n.1;unfold mo at this⊢;rw[List.eraseIdx_cons_zero,Dw (by simp),this]
  |succ j=>
   simp only[List.getElem?_cons_succ] at h;have m:k∈r.map (·.1):=cr.mpr (bd ((k,p)) (eR h) rfl);have a:¬x.1=k:=fun e=>n.1 (e▸m);have:=i n.2 h;unfold mo at this⊢;rw[List.eraseIdx_cons_succ,Du (by simpa using a),this]
theorem Jz (k:i') (h:(x.map (·.1)).Nodup):((mo x k).map (·.1)).Nodup:=
 QX (Uf _ mX) h
theorem Pk {a:bp} (u:(g0 w).room A) (y:(g0 w).is s.heap k a) (m:s.heap.DictOfH (g0 w) d X) (g:(om X k).isSome=af)
  (r:∀e h',h'.DictOfH (g0 w) d (mo X k)→hC d s.heap h'→Q (ac e) {s with heap:=h',toks:=s.toks+(g0 w).draws k}) (z:X.length≤fR):
  aH (aN aC w) A (Ds d (am a)) Q E s:=by
 refine lI m fun o t v b c h f i n=> ?_;unfold Ds
 try with_reducible refine eF ?_
 refine aG ((g0 w).pyHash u y (aG (wpAny_dictFind_heap u y b h f i n ?_ ?_)))
 ·intro B;rw[atKey_none_of_get B] at g;injection g
 ·refine fun j p q=>aG (t8 b h (ak (entry_at f j) (ak q ?_)))
  refine aG (wpAny_updateDictKeys (hz:=size_of_entries f▸z) b h (bo (r _ _ ⟨_,_,v+1,Rq _ b (Obj.isFreed_of_dict (RB h _)),
   c.mapDictKeys _,RB h _, ?_, ?_,Jz k n⟩ (nT ..))))
  ·refine ak (cB (Gy k n q)) ?_;obtain⟨l⟩:=t;simp only at f;simp only[QV];exact ak f (Pd _ _ _)
  ·exact fun x C=>(g0 w).keeps (i x ((c_.mp C).1)) b h (nT ..)
theorem Hy (k:i') (d a:bp):
  MeetsIn aC w (Builtin.«dict.__delitem__» ⟨[am d,am a],[]⟩) (fun A R s=>(g0 w).room A.in1∧∃x,(g0 w).is s.heap k a∧s.heap.DictOfH (g0 w) d x∧x.length≤fR∧(om x k).isSome=af∧
   ∀h',h'.DictOfH (g0 w) d (mo x k)→hC d s.heap h'→R (jJ (.ret dj)) {s with heap:=h',toks:=s.toks+(g0 w).draws k}):=
 .of_wp fun A R s z=>z.elim fun u Z=>Z.elim fun x b=>b.elim fun y c=>c.elim fun m f=>f.elim fun g i=>i.elim fun j h=>by
  refine aG (aG (R8 m.typeIs ?_));refine bo (?_:aH _ _ (Ds d (am a)>>=_) _ _ s);exact aG (Pk u y m j (fun e h' l n=>(aG (EN (bo (bd dj rfl (h h' l n)))))) g)
end
theorem P0 (u:bj w c) (k:aU c G L Y s) {A:bp} (j:s.heap.get? A=ac o) (r:cQ c.w G o (.e g)) (e:(i7 key&&cT key g&&dA key g)=af) (d:a8 G key vk)
  (q:∀{h' t f},hC A s.heap h'→h'.get? A=ac f→cQ c.w G f (.e (hT key g))→Q () {s with heap:=h',toks:=t}):aH (aN aC c.w) c.A (delItem (am A) vk) Q E s:=by
 refine(bI e).elim fun e v=>(bI e).elim fun y z=> ?_;refine nE k j r z d (fun i t l e _ _ _=>by subst e;injection y) fun x b l B C h m i=> ?_;subst B C;have T:=(r0 k j r).1;have n:=m;refine lI n ?_;clear n;intro _ _ _ _ _ _ _ _ n;refine Sr T (by decide) R' (ru R' T F.entry_dict_delitem (F.args_dict_delitem_2 _ _) (Hy x A b) ?_);refine⟨u.rm,l,i,m,by rw[h.len];exact r.1, ?_,fun h' D I=> ?_⟩
 ·exact kF.has mQ x h▸v
 ·exact lI D fun f M p N P R S _ U=>q I N ⟨ao (LC ..) r.1,aI (bd _ (h.del mQ n) (fun h a e i=>sB f M p e P R S i U))⟩
theorem EY (R:b2 W X Z r) (u:bj W c) (h:fX c.sc (l0 a i) U=af):f3 X Z v r c G (l0 a i) U:=by
 intro L Y s B Q E k w q;obtain⟨α,β⟩:=bI h;have w:aQ X Z (f2 r a L Y fun c L Y=>match c with
  |.sq (.box q x)=>if i.simple then r.e i L Y fun j L Y=>match dR q x Y with
    |some (.e m)=>aT.c (ov j m) fun _ c=>match gk q x (b1 c) Y with
     |some Y=>B a' L Y
     |none=>.a
    |_=>.a
   else .a
  |_=>.a):=w
 refine zG (lb R u α k w fun p C w=> ?_);rename_i z ν ξ g V ο;induction z with
 |slot y=>exact w.elim
 |sq d=>
  induction d using aj.casesOn with
  |box n y=>
   refine ay C.bx fun A γ t=> ?_;subst γ;obtain⟨F,w⟩:=f6 w;refine R u β p.k w fun P D w=> ?_;rename_i j l S π ρ σ;have T:=P.l A (cJ n y) (av F) t;have w:aQ X Z (match dR n y S with
    |some (.e m)=>aT.c (ov j m) fun _ c=>match gk n y (b1 c) S with
     |some Y=>B a' l Y
     |none=>.a
    |_=>.a):=w
   induction I:dR n y S with
   |none=>have w:=I▸w;exact w.elim
   |some δ=>
    rw[I] at w;induction δ with
    |c _=>exact w.elim
    |e m=>
     refine bK w ?_;clear w;intro _ τ ε w;obtain⟨ζ,M⟩:=du (show(if i7 j&&cT j m&&dA j m then ac (a4,b0.e (hT j m)) else ah)=ac _ from ε)
     injection M with M;injection M with a b;subst a;subst b;obtain⟨η,o,θ,ι⟩:=P.k.box T I;have w:aQ X Z (match gk n y (b1 (.e (hT j m))) S with|some Y=>B a' l Y|none=>.a):=w
     induction N:gk n y (b1 (.e (hT j m))) S with
     |none=>have w:=N▸w;exact w.elim
     |some υ=>
      rw[N] at w;exact P0 u P.k θ ι ζ D fun F κ μ=>q (f:=a') ((p.l.le fun h=>(bI h).1).same (P.l.le fun h=>(bI h).2)) (P.k.pokeB (q:=.e _) T η F κ μ (ql N)) rfl w
  |_=>exact w.elim
theorem MO (R:b2 W X Z r) (β:bj W c) (h:fX c.sc (.w a i) B=af):f3 X Z v r c G (.w a i) B:=by
 intro L Y s F Q E k w q;obtain⟨ζ,η⟩:=bI h;have w:aQ X Z (f2 r a L Y fun c L Y=>match c with
  |.sq (.box q x)=>if i.simple then r.e i L Y fun j L Y=>match dR q x Y with
    |some (.c d)=>aT.c (rH j d) fun _ c=>match gk q x (b1 c) Y with
     |some Y=>F a' L Y
     |none=>.a
    |_=>.a
   else .a
  |_=>.a):=w
 refine zG (lb R β ζ k w fun p C w=> ?_);rename_i z ρ σ g V τ;induction z with
 |slot y=>exact w.elim
 |sq D=>
  induction D using aj.casesOn with
  |box u y=>
   refine ay C.bx fun A θ t=> ?_;subst θ;obtain⟨I,w⟩:=f6 w;refine wpAny_Slice ?_;rw[show tK (ac i) (bA 0 (bA 1 (dz B)))=ac (bz i (bA 0 (bA 1 (dz B)))) from rfl,evalPart_some,evalPart_none];refine R β η p.k w fun P ι w=>bo (bo ?_);rename_i j l S υ φ κ;have T:=P.l A (cJ u y) (av I) t;have w:aQ X Z (match dR u y S with
    |some (.c d)=>aT.c (rH j d) fun _ c=>match gk u y (b1 c) S with
     |some Y=>F a' l Y
     |none=>.a
    |_=>.a):=w
   induction N:dR u y S with
   |none=>have w:=N▸w;exact w.elim
   |some μ=>
    rw[N] at w;induction μ with
    |e _=>exact w.elim
    |c d=>
     refine bK w ?_;clear w;intro _ χ γ w;induction j using aj.casesOn with
     |int n=>
      obtain⟨ν,U⟩:=du (show(if 0≤n then ac (a4,b0.c (d.take n.toNat)) else ah)=ac _ from γ)
      injection U with U;injection U with a b;subst a;subst b;obtain⟨tk,rfl⟩:=ι;have δ:=(P.push {cls:=bn "slice",data:=m8 #[aq n tk,dj,dj]} (tk:=κ.toks)).k;obtain⟨ξ,o,ο,ψ,m,rfl,ε,z⟩:=δ.box T N;have w:aQ X Z (match gk u y (b1 (.c (d.take n.toNat))) S with|some Y=>F a' l Y|none=>.a):=w
      induction α:gk u y (b1 (.c (d.take n.toNat))) S with
      |none=>have w:=α▸w;exact w.elim
      |some ω=>
       rw[α] at w;refine Je ο (To ..) ν (by rw[ε.len];exact z) fun a₀ M I π=> ?_;exact q (f:=a') ((p.l.tr P.l).le fun h=>(by injection h)) (δ.pokeB (q:=.c _) T ξ I π (er _ M rfl (ε.take _) (by rw[nX];exact ao (nY ..) z)) (ql α)) rfl w
     |_=>injection γ
  |_=>exact w.elim
theorem Fy (B:en W.1 mg mb) (R:b2 W X Z r) (u:bj W c) (h:fX c.sc (.u x a) S=af):f3 X Z v r c G (.u x a) S:=by
 intro L Y s κ Q E k w q;obtain⟨N,i⟩:=bI h;obtain⟨g,i⟩:=bI (show(mG c.sc 18&&eQ c.sc [a] (ep (cK S)).tail)=af from i);have i:=(bI i).1;have B:en c.w mg mb:=by obtain rfl:=u.r;exact B
 refine t9 (wZ (fv:=bn "dict") B u k (bI g).1 (by decide) (aI ⟨_,rfl⟩) i (R u i k w fun p d w=> ?_)) rfl;rename_i D μ ν ξ V ο;induction D using aj.casesOn with
 |e P=>
  have w:=w;refine ay w ?_;clear w;intro b C w;obtain⟨T,U⟩:=f6 w;subst T;obtain⟨n,α⟩:=oF U;refine bK d fun π o y t=> ?_;subst y;refine eB (p.k.ok _ _ t) fun ρ β y F=> ?_;subst y;refine ay (z' p.k β F (cH.mp (bD C))) fun A M γ=> ?_;refine kt_call_dict (p.k.nmod fun o j=>by have j:=t▸j;cases j) γ (by refine ak M.len ?_;exact F.1) fun h' m δ=> ?_;have ε:=fun b I C=>δ.extBut b I (hZ (ki C)) (iq _ C);exact hR (id m) fun ζ η θ ι z=>sd (q:=.e P) u (p.k.kp (h':=h') fun b I _=>ε b I) N n p.k.B ι ⟨F.1,av (bd A M (fun h a j=>iO ζ η θ j z))⟩ fun σ τ l k=>q (f:=a') (p.l.low.tr l) k rfl α
 |_=>exact w.elim
end
section
theorem LS:∃b,pL (pI e gs s c) (ac (ey y p')) l E=dm b:=⟨_,rfl⟩
theorem Fx (B:en W.1 mg mb) (R:b2 W X Z r) (ι:∀{Z},b2 W κ Z r) (U:∀{Z},hI W κ Z r) (μ:pW X κ τ r) (P:bj W c) (h:fX c.sc (.j x a t i F) S=af):f3 X Z τ r c G (.j x a t i F) S:=by
 intro L Y s υ Q E k w q;refine(bI h).elim fun φ ν=> ?_;have B:en c.w mg mb:=by obtain rfl:=P.r;exact B
 have ξ {d:List aj} {D:bp} {C:bp} {V:au} {e:ar} {j:bN} {y:ct} {u:List aV} {n:Nat} {ο:Unit→ct→Prop} (p:bT ai c G j V e y) (N:j D=ah) (A:y.heap.get? D=ac (d5 u n)) (v:dy j d u) (z:d.length≤b4) (w:aQ X Z (jv x (bE (.c d)) V fun L=>υ a' L e))
   (g:∀{I δ α},bV ai j I→aU c I δ e α→(∀{π},aU c I δ e π→Q h6 π)→ο () α):aH (aN aC c.w) c.A (yD c.env (b_ x) (am D)) ο E y:=by
  exact(oF w).elim fun χ w=>sd (q:=.c d) P p.k φ χ N A (er _ _ rfl v (jO z)) fun I α l k=>g l.low k fun ψ=>q (f:=a') (p.l.tr l) ψ rfl w
 obtain⟨b,ρ⟩:=LS (gs:=[⟨mT t (bA 1 (cK S)),bz i (bA 2 (cK S)),dJ F ((ep (cK S)).drop 3),0⟩]) (p':=(dz S).pos);have w:=w;refine(?_:aH _ _ (ot (iZ [ey (b_ x) (dz S).pos] (pI (bz a (bA 0 (cK S))) [⟨mT t (bA 1 (cK S)),bz i (bA 2 (cK S)),dJ F ((ep (cK S)).drop 3),0⟩] (mc (cK S)) (cK S).pos) S.pos) c.env) Q E s);induction b with
 |true=>
  refine ak (exec_Assign_Name_used _ _ _ _ ρ) (aG (fw (aG (aG (uU B R ι U P μ ν k w fun{d D C V e j y u n} p N T ε A v z w=>(Eb (ξ (C:=C) p N A v z w fun{I δ α} l β g=> ?_)))))));have σ:=l C eH trivial T;obtain⟨o,ζ,m,η⟩:=β.ok _ _ σ;exact⟨m,η _ _ ζ,fun ω M θ γ=>bo (bo (g (β.nsC σ ε θ γ)))⟩
 |false=>
  refine t9 ?_ ρ;rw[eval_ListComp];refine uU B R ι U P μ ν k w fun{d D C V e j y u n} p N T ε A v z w=> ?_;obtain⟨o,ζ,m,η⟩:=p.k.ok _ _ T;refine bd m (η _ _ ζ) (fun ω M θ γ=> ?_);exact ξ (C:=C) ⟨p.l,p.h,(p.k.nsC T ε θ γ)⟩ N ((γ.2 _ (by rintro rfl;rw[N] at T;injection T)).trans A) v z w fun l β g=>g β
structure KO (X x:dT) (l:Nat) (r:gv):Prop where
 c:pW X x l r
 f:∀{p f L Y},X.sub (.a l p) f L Y→p.c=ah→aQ x (·=(f,L,Y)) (kI r p.body p.t (gy p.b p.d) (p.L.map (·.1)) p.d p.L p.st dW)
 w:∀{p f L Y},X.sub (.a l p) f L Y→∀{m},p.c=ac m→aQ x (·=(f,L,Y)) (l3 r m p.body (p.L.map (·.1)) dW pi p.L p.st)
theorem NC (B:en W.1 mg mb) (R:b2 W X Z r) (U:hI W X Z r) (V:nx W X Z r) (P:∀{Z},b2 W D Z r) (M:∀{Z},hI W D Z r) (N:∀{Z},nx W D Z r) (E:KO X D L r) (z:bj W c) (h:fX c.sc m s=af):f3 X Z L r c G m s:=by
 induction m using ej.casesOn with
 |v=>exact fun C A Q=>A.elim
 |d m=>exact Ju R z h
 |h m=>exact KU R z h
 |set x m=>exact NS R z h
 |g x e=>exact OH R z h
 |p x=>exact K9 z h
 |j x a t I F=>exact Fx B R P M E.c z h
 |u x a=>exact Fy B R z h
 |names T m=>exact K8 R z h
 |attr a x m=>exact P9 R z h
 |k a x e=>exact Mj R z h
 |n a x=>exact PC R z h
 |sub a i m=>exact JV R z h
 |B x S m=>exact GC R z h
 |q a x S m=>exact GZ R z h
 |f t I b=>exact LV B R N z h E.f
 |m c b=>exact Ql M N z h E.w
 |l c a b=>exact Fb U V z h
 |del a i=>exact EY R z h
 |w a i=>exact MO R z h
 |y=>exact fun C A Q=>aG (fw (bo (Q (f:=a') .f C rfl A)))
 |o=>exact fun C A Q=>aG (fw (bo (Q (f:=.o) .f C rfl A)))
 |cont=>exact fun C A Q=>aG (fw (bo (Q (f:=iz) .f C rfl A)))
theorem H6 (I:∀{c G m S},bj W c→fX c.sc m S=af→f3 X Z j r c G m S) (R:gv) (n:R.ss=zc j r):nx W X Z R:=by
 intro c M S G p a;rewrite [n];induction M generalizing S G with
 |nil=>intro L Y s t Q E k w q;exact Ek (q (f:=a') .f k rfl w)
 |cons m M i=>
  intro L Y s t Q E k w q;obtain⟨u,x⟩:=bI a;have e (a:kD (m::M)=af):m.simple=af∧kD M=true:=bI a;refine wpAny_execs_cons (I p u k w fun l k F w=> ?_);rename_i f A B g C N;have b:=l.le (b':=kD (m::M)) fun a=>(e a).1;induction f with
  |next=>subst F;exact i x k w fun z k F w=>q (b.same (z.le fun a=>(e a).2)) k F w
  |o=>subst F;exact q (f:=.o) b k rfl w
  |cont=>subst F;exact q (f:=iz) b k rfl w
  |h d=>refine ay F fun v y D=> ?_;subst y;exact q (f:=.h d) b k (bd v rfl D) w
end
theorem u' {Y:ar}:(dw T a M).sub s f L Y→aQ (dw T a s.b) (·=(f,L,Y)) (qH T s):=by
 exact M.rec EL fun M i=>fun h=>h.elim i fun z=>z.1▸z.2
theorem Nq (h:p.c=ah):qH T (.a k p)=kI (eY T k) p.body p.t (gy p.b p.d) (p.L.map (·.1)) p.d p.L p.st dW:=by obtain⟨b,c,t,x,d,L,s⟩:=p;subst h;rfl
theorem Fi (h:p.c=ac m):qH T (.a k p)=l3 (eY T k) m p.body (p.L.map (·.1)) dW pi p.L p.st:=by obtain⟨b,c,t,x,d,L,s⟩:=p;subst h;rfl
theorem yP:KO (dw T a M) (dw T a l) l (eY T l) where
 c:=fun h=>u' h
 f:=fun h e=>by have:=u' h;exact Nq e▸this
 w:=fun{p F L Y} h {m} e=>by have:=u' h;exact Fi e▸this
structure S5 (w:bZ×Nat) (X:dT) (r:gv):Prop where
 e:∀{Z},b2 w X Z r
 t:∀{Z},hI w X Z r
 s:∀{Z},nx w X Z r
theorem Na (B:en W.1 mg mb) (F:iJ W.1 W.2 b) (m:Nat):∀M,m≤M→S5 W (dw T b M) (eY T m):=by
 induction m using Nat.strongRecOn with
 |ind m i=>
  intro M d;induction m using ir with
  |zero=>exact⟨fun{Z c m e G} _ _ {L Y s f Q E} k w q=>w.elim,fun{Z c m e G} _ _ {L Y s f Q E} k w q=>w.elim,fun{Z c m e G} _ _ {L Y s f Q E} k w q=>w.elim⟩
  |succ m=>
   have h:=i m (lO m) M (kg d);have a:=i m (lO m) m (bv m);have F:iJ W.1 W.2 (dw T b M).call:=by rw[yM];exact F
   refine⟨fun{Z}=>OV B F h.e h.t a.e a.t yP.c _ rfl,fun{Z}=>GF h.e h.t ?_ _ rfl,fun{Z}=>H6 (fun o g=>NC B h.e h.t h.s a.e a.t a.s yP o g) _ rfl⟩;induction m using ir with
   |zero=>exact av fun _ _ _ _=>rfl
   |succ m=>exact aI (iO T m (eY T m) ((i m (px (lO m)) M (kg (kg d))).e) rfl)
noncomputable def Qt (o:cl):FuncData:=match o.data with
 |.func f=>f
 |_=>fy
noncomputable def d7 (P:bX) (g:Nat):FuncData:=(((i_.lookup g).bind fun f=>(cO P).get? f.1).map Qt).getD fy
noncomputable def zW (fd:rB):List PySem.Stmt:=match fd.body with
 |.stmts b=>b
 |_=>[]
noncomputable def r6 (v:aV):Addr:=match v with
 |.ref a=>a
 |_=>0
noncomputable def KP (v:aV):Tok:=match v with
 |.str _ t=>t
 |_=>0
noncomputable def Fg (o:cl):Array Value:=match o.data with
 |.fields v=>v
 |_=> #[]
noncomputable def KS (o:cl):List Value:=match o.data with
 |.seq x _=>x.toList
 |_=>[]
noncomputable def xJ (P:bX) (v:aV):Array Value:=(((cO P).get? (r6 v)).map Fg).getD #[]
noncomputable def w7 (P:bX) (a:bp):List Value:=(((cO P).get? a).map KS).getD []
noncomputable def Ft (o:cl):Nat:=match o.data with
 |.seq _ n=>n
 |_=>0
noncomputable def N6 (P:bX) (a:bp):Nat:=(((cO P).get? a).map Ft).getD 0
noncomputable def p9 (v:aV):Option aj:=match v with
 |.int i _=>ac (ae i)
 |.str x _=>ac (bP x)
 |.ref a=>kA.lookup a
 |_=>ah
noncomputable def w4 {b:Type} (h:fT) (t:h8 b):h8 b:=match t with
 |.load a p k=>(h.get? a).elim (.load a p k) k
 |t=>t
theorem N1 {a β:Type} {l:List (Nat×a)} {f g:Nat→a→β} (h:(l.map fun p=>f p.1 p.2)=l.map fun p=>g p.1 p.2) {x:Nat} {q:a} (m:l.lookup x=ac q):f x q=g x q:=jH.mp h _ (hL m)
noncomputable def C8 (P:bX) (g:Nat):List Value:=w7 P (r6 (d7 P g).defaults)
noncomputable abbrev s9 (q:iR):List Str:=q.params.map b_
noncomputable abbrev nF (u:Nat→aV) (n:Nat):List Value:=(cv n).map u
noncomputable def CI (N:List (br×lV)) (x:br):Nat:=((cellsFrom 0 N []).lookup x).getD 0
noncomputable def vm (E:od) (b:List (br×aV)) (y:Nat):Option Value:=match E.cells.lookup (b_ y) with
 |some _=>bindC E.kindOf b (fun _=>ah) (b_ y)
 |none=>bindL E.kindOf b (fun _=>ah) (b_ y)
noncomputable def vv (L:Nat) (F:rB) (x:br):Option Addr:=(cellsFrom (L+1) F.scope.names []).lookup x
noncomputable def GW (L:Nat) (F:rB) (y:Nat):Bool:=Nat.blt y f0.length&&(aM (F.scope.names.lookup (b_ y)=ac g6)||(aM (F.scope.names.lookup (b_ y)=ac gu)&&(vv L F (b_ y)).isSome))
noncomputable def r' (P:bX) (u:Nat→aV) (q:iR) (g k:Nat):h8 (List (br×aV)):=w4 (cO P) (bindArgs (d7 P g) ⟨nF u (q.params.length-k),[]⟩)
noncomputable abbrev vJ (P:bX) (L a:Nat) (u:Nat→aV) (g:Nat) (q:iR):=((i_.lookup g).bind fun f=>((cO P).get? f.1).map (·.data),
  (d7 P g).body,BJ (d7 P g).scope q.body (zW (d7 P g)),wO q.params,(d7 P g).scope.kind,(d7 P g).scope.isCoroutine,(d7 P g).scope.isGenerator,(d7 P g).globals,(d7 P g).closure,(d7 P g).builtins,(d7 P g).code,((cO P).get? (r6 (d7 P g).code)).map (·.data),(xJ P (d7 P g).code)[1]?,
  (C8 P g).map p9,fx q.dflts.length 1,r' P u q g 0,r' P u q g q.dflts.length,
  (d7 P g).scope.names.map fun z=>(aM (z.2=d'),vv L (d7 P g) z.1),q.params.all (GW L (d7 P g)),q.params.map (vm (pM (d7 P g) L a) ((s9 q).zip (nF u q.params.length))))
noncomputable abbrev u0 (P:bX) (L a:Nat) (u:Nat→aV) (g:Nat) (q:iR):=(ac (pP (d7 P g)),EQ (zB q.body (zW (d7 P g))),af,af,k4,ai,ai,n_,([]:List (br×bp)),rz,am (r6 (d7 P g).code),ac (m8 (xJ P (d7 P g).code)),ac (ba (d7 P g).qualname (KP ((xJ P (d7 P g).code)[1]?.getD dj))),
  q.dflts.map ac,af,(dm ((s9 q).zip (nF u q.params.length)):h8 (List (br×aV))),(dm ((s9 q).zip (nF u (q.params.length-q.dflts.length)++C8 P g)):h8 (List (br×aV))),
  (d7 P g).scope.names.map fun z=>(ai,if z.2=gu then ac (L+1+CI (d7 P g).scope.names z.1) else ah),af,(cv q.params.length).map fun i=>ac (u i))
abbrev tH (P:bX) (L a:Nat) (u:Nat→aV) (l:List (Nat×iR)):Prop:=(l.map fun p=>vJ P L a u p.1 p.2)=l.map fun p=>u0 P L a u p.1 p.2
theorem GU (P:bX) (L a:Nat) (u:Nat→aV):tH P L a u (qm.take 35):=by kernel_rfl
theorem JW (P:bX) (L a:Nat) (u:Nat→aV):tH P L a u ((qm.drop 35).take 35):=by kernel_rfl
theorem G4 (P:bX) (L a:Nat) (u:Nat→aV):tH P L a u ((qm.drop 35).drop 35):=by kernel_rfl
theorem y9 {a β:Type} {f g:a→β} (n:Nat) {l:List a} (h:(l.take n).map f=(l.take n).map g) (k:(l.drop n).map f=(l.drop n).map g):l.map f=l.map g:=by
 rw[←DF n l,cd,cd,h,k]
theorem L6 (P:bX) (L a:Nat) (u:Nat→aV):tH P L a u qm:=y9 35 (GU P L a u) (y9 35 (JW P L a u) (G4 P L a u))
theorem PD (f:∀b o,c.get? b=ac o→s.heap.get? b=ac o) (e:w4 c t=t') (h:aH M A t' Q E s):aH M A t Q E s:=by
 subst e;induction t using Sem.casesOn with
 |load a p k=>
  have h:aH M A ((c.get? a).elim (.load a p k) k) Q E s:=h;induction d:c.get? a with
  |none=>rw[d] at h;exact h
  |some o=>rw[d] at h;exact aG (wpAny_loadPart (f _ _ d) h)
 |_=>exact h
theorem zL {us:List aV}:∀{k},k≤us.length→nF (fun i=>us.getD i dj) k=us.take k:=by
 intro k;induction k with
 |zero=>intro _;rfl
 |succ k I=>intro h;rw[nF,ya,cd,RX,cS h,List.map_singleton,List.getD,cS h];exact aS (·++_) (I (gJ h))
theorem LZ {l:List e} {m:List β} (h:l.map f=m.map g) {i:Nat} (c:l[i]? =ac a) (d:m[i]? =ac b):f a=g b:=by
 have h:=aS (·[i]?) h;rw[dX,dX,c,d] at h;exact bD h
noncomputable def ll (e:od) (x:Nat):xN:=match e.cells.lookup (b_ x) with
 |some a=>gO a
 |none=>hH e.locals
open Classical in
noncomputable def qd (e:od) (a:bp):Option fl:=if a=e.locals then ac eH else if∃y,e.cells.lookup y=ac a then ac gP else ah
noncomputable def nN (e:od) (G:bN):bN:=fun a=>(G a).or (qd e a)
section
theorem zV (e:qd E a=ac t):(a=E.locals∧t=eH)∨((∃y,E.cells.lookup y=ac a)∧t=gP):=by
 unfold qd at e;by_cases h:a=E.locals
 ·rw[aJ h] at e;exact av ⟨h,(bD e).symm⟩
 ·rw[aL h] at e;by_cases b:∃y,E.cells.lookup y=ac a
  ·rw[aJ b] at e;exact aI ⟨b,(bD e).symm⟩
  ·rw[aL b] at e;exact(by injection e)
theorem rZ (e:G a=ac t):nN E G a=ac t:=aS (yq · _) e
end
section
variable{Y:ar}
theorem Fh (k:mB c.w c.a G F Y s) (x:InCallC s c.env.locals (bindL c.env.kindOf B fun _=>ah) c.env.cells (bindC c.env.kindOf B fun _=>ah) r) (w:∀y,c.pl y=ll c.env y)
  (C:∀y sl,bG y F=ac sl→y<f0.length∧∃v,jx G y v sl∧vm c.env B y=ac v):bV af G (nN c.env G)∧aU c (nN c.env G) F Y r:=by
 have y:=x.toInCall;have j {a:bp} (h:c.env.locals≤a) {t:fl} (e:qd c.env a=ac t):nN c.env G a=ac t:=by
  refine ux (b:=(ah:Option fl).or (qd c.env a)) (aS (yq · _) (a₁:=G a) ?_) e;induction D:G a with
  |none=>rfl
  |some t=>exact(k.ok a t D).elim fun o d=>aR (ki d.1) (Nat.not_lt.mpr (ao y.fresh h))
 have A {y:br} {a:bp} (h:c.env.cells.lookup y=ac a):c.env.locals<a:=x.above y a (hL h);have i {y:br} {a:bp} (h:c.env.cells.lookup y=ac a):nN c.env G a=ac gP:=j (gJ (A h)) ((aL (lP (A h))).trans (aJ ⟨y,h⟩));have I:=j (bv _) (aJ rfl);have l:bV af G (nN c.env G):=fun a t _ e=>rZ e;have p (z:Nat):(∃a,c.env.cells.lookup (b_ z)=ac a∧c.pl z=gO a)∨(c.env.cells.lookup (b_ z)=ah∧c.pl z=hH c.env.locals):=by
  rw[w];unfold ll;cases c.env.cells.lookup (b_ z) with
  |some a=>exact av ⟨a,rfl,rfl⟩
  |none=>exact aI ⟨rfl,rfl⟩
 refine⟨l, ?_,fun a t e=>(Dz.mp e).elim (fun g=>(k.ok a t g).imp fun o z=>⟨y.keep a o z.1,z.2.view l.ld (.f fun _ _ _ h=>rZ h)⟩) fun g=>(zV g.2).elim (fun h=> ?_) fun h=> ?_,
  fun a b t S e f=> ?_,fun a t u e=>rZ (k.base a t u e),fun z=> ?_,fun z sl e=>(C z sl e).elim fun L h=>h.imp fun v h=>⟨⟨L, ?_⟩,h.1.mono l.ls fun b _ h=>rZ h⟩⟩
 ·exact oQ k.same fun h R e=>bK x.done fun d T E _=>o_ d T (E.trans (by rw[e]))
 ·rw[h.1,h.2];exact hR y.ns fun o M P Q z=>⟨o,Q,_,fun h a e=>⟨o,M,P,e,z⟩⟩
 ·exact ak h.2 (h.1.elim fun n h=>(x.cell n a h).imp fun o z=>⟨z.1,_,z.2⟩)
 ·have N {a t} (S:ox t) (e:nN c.env G a=ac t):G a=ac t:=(Dz.mp e).elim id fun g=>by rcases zV g.2 with⟨_,rfl⟩|⟨_,rfl⟩<;>exact S.elim
  exact k.solo a b t S (N S e) (N S f)
 ·rcases p z with⟨a,h,q⟩|⟨_,q⟩<;>refine ak q ?_
  ·exact i h
  ·exact I
 ·have m:=h.2;unfold vm at m;rcases p z with⟨a,h,q⟩|⟨h,q⟩<;>refine ak q ?_<;>rw[h] at m
  ·exact⟨i h,m▸x.cell _ a h⟩
  ·exact⟨I,_,y.ns,m⟩
end
section
variable{ad:bp}
noncomputable abbrev CH (fd:rB) (w:bZ) (s:ct) (A:pO) (n:Nat) (L ad:bp):dr:=⟨w,s,ll (pM fd L ad),fd.scope,pM fd L ad,A.deeper (pM fd L ad),n⟩
theorem Gz (h:e.cells.lookup (b_ x)=ah):ll e x=hH e.locals:=by unfold ll;refine ak h ?_;rfl
theorem JM (h:e.cells.lookup (b_ x)=ac a):ll e x=gO a:=by unfold ll;refine ak h ?_;rfl
theorem C7 (h:ll e x=gO a):e.cells.lookup (b_ x)=ac a:=by
 unfold ll at h;induction e:e.cells.lookup (b_ x) with
 |none=>rw[e] at h;exact(Bk h).elim
 |some b=>rw[e] at h;injection h with h;exact aS _ h
theorem Nf {cs:List (br×bp)} (p:cs.Pairwise fun a b=>a.2≠b.2) (d:(x,c)∈cs) (f:(y,c)∈cs):x=y:=by
 induction p with
 |nil=>exact nomatch d
 |cons h _ i=>exact(eS.mp d).elim (fun E=>(eS.mp f).elim (fun e=>aS (·.1) (E.trans e.symm)) fun e=>aR (aS (·.2) E.symm) (h _ e)) fun d=>(eS.mp f).elim (fun e=>aR (aS (·.2) e.symm) (h _ d)) (i d)
theorem Ow (i:F.scope.kind=k4) (o:F.globals=n_) (q:F.builtins=rz)
  (N:(F.scope.names.map fun z=>(aM (z.2=d'),vv L F z.1))=F.scope.names.map fun z=>(ai,if z.2=gu then ac (L+1+CI F.scope.names z.1) else ah))
  (ro:oL (n+1) A) (x:InCallC s (pM F L ad).locals m (pM F L ad).cells c S):bj (w,n) (CH F w D A n L ad):=
 have e {x k} (h:fm F.scope x=ac k):=jH.mp N _ (hL (lE h))
 ⟨rfl,i,o,q,fun x h=>⟨lE h,Gz (aS yA (e h))⟩,fun x h=>⟨lE h,_,aS yA (e h),JM (aS yA (e h))⟩,fun x h=>(nomatch aS yB (e h)),fun y h=>h,
  fun X y a t C h g=>uK t C (Nf x.apart (hL (C7 h)) (hL (C7 g))),ro.b,ao (a9 (aS (·+8) (t0 A.depth 1 (8*n)))) (ao (cj (show 9≤12 by decide) (A.depth+8*n)) ro.j),ao (a9 (aS (·+40) (t0 A.units 3 (40*n)))) (ao (cj (show 43≤60 by decide) (A.units+40*n)) ro.d)⟩
end
section
def xe (G:bN) (H:List Nat) (f:au) (us:List aV):Prop:=∀y s,bG y f=ac s→∃(i:Nat) (v:aV),H[i]? =ac y∧us[i]? =ac v∧jx G y v s
theorem xe.cons (a:jx G p v sl0) (h:xe G H f us):xe G (p::H) ((p,sl0)::f) (v::us):=fun y s e=>by
 have e:(if p=y then ac sl0 else bG y f)=ac s:=e
 by_cases h:p=y
 ·rw[aJ h] at e;injection e with e;subst e h;exact⟨0,v,rfl,rfl,a⟩
 ·rw[aL h] at e;exact(‹xe G H f us› _ _ e).elim fun i h=>⟨i+1,h⟩
structure Po (G:bN) (H:List Nat) (fr:au) (v d us:List aV):Prop where
 len:us.length=H.length
 eq:us=v∨us=v++d
 fr:xe G H fr us
theorem No (j:dy G D c) (k:D.length≤1):∀{s:List fO} {V:List aV} {f:au},xl G H s V→j' H s D=ac f→∃us,Po G H f V c us:=by
 induction H with
 |nil=>
  intro s V f A e;induction s using cn with
  |cons b g=>induction b<;>exact(by injection e)
  |nil=>
   induction V using cn with
   |nil=>exact⟨[],rfl,av rfl,fun y m h=>by injection e with e;subst e;exact(by injection h)⟩
   |cons _ _=>exact A.elim
 |cons p H i=>
  intro s V f A e;induction s using cn with
  |nil=>
   induction V using cn with
   |cons _ _=>exact A.elim
   |nil=>
    cases j with
    |nil=>exact(by injection e)
    | @cons d v n t b r=>
     cases r with
     |cons _ _=>exact(kY _ (q9 k)).elim
     |nil=>
      induction H using cn with
      |cons _ _=>exact(by injection e)
      |nil=>exact⟨[v],rfl,aI rfl,bD e▸ .cons b fun _ _ h=>((by injection h))⟩
  |cons b g=>
   induction V using cn with
   |nil=>exact A.elim
   |cons v V=>
    have o {sl0:il} (S:jx G p v sl0) (e:(j' H g D).map ((p,sl0)::·)=ac f):∃us,Po G (p::H) f (v::V) c us:=
     (dg.mp e).elim fun F e=>(i A.2 e.1).elim fun us u=>⟨v::us,aS (·+1) u.len,u.eq.imp (aS _) (aS _),e.2▸u.fr.cons S⟩
    induction b with
    |l d=>exact o (sl0:=.l d) A.1 e
    |a q=>exact o (sl0:=.a q) A.1 e
end
noncomputable def Qe (o:cl):Bool:=match o.cls with
 |.type n=>n=="list"
 |_=>ai
theorem OZ (P:bX):((cO P).objs.toList.map Qe)=(cO P).objs.toList.map fun _=>false:=by kernel_rfl
theorem Hz (P:bX):(cO P).noLimitOk=true:=by kernel_rfl
theorem BZ (P:bX):(kA.map fun p=>((cO P).get? p.1,(w7 P p.1).map p9,p.2,fx (tx p.2).length 16777216))=kA.map fun p=>(ac (lC (w7 P p.1) (N6 P p.1)),(tx p.2).map ac,aj.j (tx p.2),af):=by kernel_rfl
section
variable{Y:ar}
theorem M5 (h:kA.lookup a=ac d) (b:(cO w.params).get? a=ac o):d6 w a=ac (.d d o):=by unfold d6;refine ak b ?_;dsimp only;refine ak h ?_;rfl
theorem yW (h:p9 v=ac d):a8 (d6 w) d v:=by
 induction v using Value.casesOn with
 |int i t=>injection h with h;subst h;exact⟨t,rfl⟩
 |str i t=>injection h with h;subst h;exact⟨t,rfl⟩
 |ref a=>exact mv (jH.mp (BZ w.params) _ (hL h)) fun c b=>mv b fun _ b=>mv b fun b _=>(show d=_ from b)▸⟨a,_,rfl,M5 ((b)▸h) c⟩
 |_=>exact(by injection h)
theorem zX:∀{ds:List aj},vs.map p9=ds.map ac→dy (d6 w) ds vs:=by
 induction vs with
 |nil=>intro ds h;induction ds using cn with
  |nil=>exact cI
  |cons _ _=>exact(by injection h)
 |cons v vs i=>intro ds h;induction ds using cn with
  |nil=>exact(by injection h)
  |cons d ds=>injection h with a b;exact cy (yW a) (i b)
theorem mB.head (k:mB w S G L Y s) (h:(cO w.params).get? a=ac o):s.heap.get? a=ac o:=by
 have y:∃t,d6 w a=ac t∧i5 ai t∧(t=.a o∨∃d,t=.d d o):=by
  unfold d6;refine ak h ?_;cases kA.lookup a with
  |none=>exact⟨_,rfl,trivial,av rfl⟩
  |some d=>exact gX _ rfl trivial (aI ⟨d,rfl⟩)
 refine eB y fun t e u q=>ay (k.ok a t (k.base a t u e)) fun p b z=> ?_;rcases q with rfl|⟨d,rfl⟩
 ·exact z▸b
 ·exact z.1▸b
theorem Ik (B:en w mg mb) (F:iJ w n (aZ n)):iJ w (n+1) (aZ (n+1)):=by
 intro g a₁ Y d C a₂ z;refine cE z fun q κ μ m ν=> ?_;have T:=fun L a u=>N1 (L6 w.params L a u) μ;have I:=T 0 0 fun _=>dj;refine(jG.mp (aS (·.1) I)).elim fun M X=>xx M q.params q.dflts κ X.1 (zO (aS (·.2.2.2.1) I)) m (?_);intro S G A s V R r k ξ Z;refine(dg.mp X.2).elim fun o α=>(dg.mp (aS (·.2.2.2.2.2.2.2.2.2.2.2.1) I)).elim fun ο β=> ?_;have N:∀b o,(cO w.params).get? b=ac o→s.heap.get? b=ac o:=fun b o e=>k.head e;have γ:=zX (w:=w) (aS (·.2.2.2.2.2.2.2.2.2.2.2.2.2.1) I);refine(No (γ.mono k.base.ld) (lM (aS (·.2.2.2.2.2.2.2.2.2.2.2.2.2.2.1) I)) ξ m).elim fun Q U=> ?_;have T:=T s.heap.objs.size M.1 fun i=>Q.getD i dj;have δ:=(zL (a9 U.len.symm)).trans (U.len▸D4);have π:∃t,w4 (cO w.params) (bindArgs (d7 w.params g) ⟨V,[]⟩)=t∧t=dm ((s9 q).zip Q):=by
  rcases U.eq with e|e
  ·exact⟨_,rfl,by have j:=(congrArg (·.2.2.2.2.2.2.2.2.2.2.2.2.2.2.2.1) T);dsimp only[vJ,u0,r'] at j;rw[Nat.sub_zero,δ,e] at j;rw[e];exact j⟩
  ·have P:q.params.length-q.dflts.length=V.length:=by rw[←γ.len,←U.len,e,List.length_append,Nat.add_sub_cancel]
   have E:nF (fun i=>Q.getD i .none) V.length=V:=(zL (by rw[e,List.length_append];exact Nat.le_add_right _ _)).trans (by rw[e];exact List.take_left' rfl);exact bd _ rfl (by have j:=(congrArg (·.2.2.2.2.2.2.2.2.2.2.2.2.2.2.2.2.1) T);dsimp only[vJ,u0,r'] at j;rw[P,E] at j;rw[e];exact j)
 refine codeAny_call_function (Nat.lt_of_le_of_lt (Nat.le_trans (Nat.le_add_right _ _) (Nat.le_trans (Nat.le_add_right _ _) r.j)) (by decide)) (N _ _ α.1) α.2 (congrArg (·.2.2.2.2.2.1) I) (congrArg (·.2.2.2.2.2.2.1) I) (congrArg (·.2.1) I)
  (xx _ ο _ _ (congrArg (·.2.2.2.2.2.2.2.2.2.2.1) I) (N _ _ β.1) β.2 (congrArg (·.2.2.2.2.2.2.2.2.2.2.2.2.1) I)) (π.elim fun t j=>PD N j.1 (ak j.2 (wpAny_pure ?_)))
 refine ak (show(d7 w.params g).closure=[] from congrArg (·.2.2.2.2.2.2.2.2.1) I) (wpAny_newFunctionEnv_cells (congrArg (·.2.2.2.2.1) I) (fun x ρ=> ?_) fun σ W a₃ x=> ?_)
 ·refine ay (List.mem_map.mp (List.of_mem_zip ρ).1) fun p τ e=> ?_;have j:=cH.mp (aS (·.2.2.2.2.2.2.2.2.2.2.2.2.2.2.2.2.2.2.1) T) p τ;exact ak (cB e) (((dK ..).mp (bI j).2).imp dB fun j=>⟨dB (bI j).1,(bI j).2⟩)
 have W:σ=pM (d7 w.params g) s.heap.objs.size M.1:=W;subst W;refine⟨(T8 (Hz w.params)).keeps fun b o e=>x.toInCall.keep b o (N b o e),codeAny_func ((Fh (c:=CH (d7 w.params g) w S A n s.heap.objs.size M.1) k x (fun _=>rfl) fun y υ e=> ?_).elim fun φ χ=> ?_)⟩
 ·refine(U.fr y υ e).elim fun i j=>eB j fun v ε ζ ψ=>⟨?_,v,ψ, ?_⟩
  ·exact lM (bI (cH.mp (aS (·.2.2.2.2.2.2.2.2.2.2.2.2.2.2.2.2.2.2.1) T) y (eR ε))).1
  ·have:=LZ (aS (·.2.2.2.2.2.2.2.2.2.2.2.2.2.2.2.2.2.2.2) T) ε (by rw[tZ (by rw[←U.len];exact(hy.mp ζ).1)]);rw[δ] at this;exact this.trans (aS (fun o=>ac (Option.getD o dj)) ζ)
 refine(Na B F 60 60 (bv _)).s (Ow (aS (·.2.2.2.2.1) I) (aS (·.2.2.2.2.2.2.2.1) I) (aS (·.2.2.2.2.2.2.2.2.2.1) I) (aS (·.2.2.2.2.2.2.2.2.2.2.2.2.2.2.2.2.2.1) T) r x) (aS (·.2.2.1) I) χ ν fun{f a₄ a₅ a₆ a₇ a₈} ω η θ w=>dM w fun E P ι=> ?_;have l:=φ.tr ω;induction f with
 |next=>subst θ;exact Z l (ι▸η.sc) P ((E)▸rfl)
 |h a₉=>refine ay θ fun v a₀ D=> ?_;subst a₀;exact Z l (ι▸η.sc) P ((E)▸D)
 |_=>exact E.elim
end
theorem IM (B:en w mg mb) (n:Nat):iJ w n (aZ n):=by
 induction n with
 |zero=>exact fun h=>EL h
 |succ n i=>exact Ik B i
theorem uW (e:d6 w a=ac t):∃o,(cO w.params).get? a=ac o∧(t=.a o∨∃d,kA.lookup a=ac d∧t=.d d o):=by
 unfold d6 at e;cases h:(cO w.params).get? a with
 |none=>rw[h] at e;exact nomatch e
 |some o=>
  rw[h] at e;have e:(match kA.lookup a with|some d=>ac (fl.d d o)|none=>ac (fl.a o))=ac t:=e
  cases l:kA.lookup a with
  |none=>rw[l] at e;exact⟨o,rfl,av (bD e).symm⟩
  |some d=>rw[l] at e;exact⟨o,rfl,aI ⟨d,rfl,(bD e).symm⟩⟩
theorem Pz (e:d6 w a=ac t):∃o,(cO w.params).get? a=ac o∧∀L,ku w (d6 w) [] L o t:=by
 rcases uW e with⟨o,h,rfl|⟨d,l,rfl⟩⟩
 ·exact⟨o,h,fun _=>rfl⟩
 ·refine⟨o,h,fun _=>mv (jH.mp (BZ w.params) _ (hL l)) fun f b=>mv b fun b c=>mv c fun c g=> ?_⟩;rw[show d=_ from c];exact⟨rfl,_,_,bD (h.symm.trans f),zX b,jj▸lM g⟩
theorem Cd (P:bX):(cO P).isNs n_=af∧(cO P).isNs rz=true:=⟨by kernel_rfl,by kernel_rfl⟩
noncomputable def r_ (P:bX) (x:br):Option Value:=(cO P).nsMap n_ x
noncomputable def yK (P:bX) (x:br):Option Value:=(cO P).nsMap rz x
theorem KJ (P:bX):(mN.map fun p=>(r_ P (ed p.1),yK P (ed p.1)))=mN.map fun p=>(ah,ac p.2):=by kernel_rfl
theorem Ij (P:bX):(j8.map fun p=>cond (fx 100 p.2) (r_ P (ed p.2)) ah)=j8.map fun p=>cond (fx 100 p.2) (ac (am (l2 p.2))) none:=by kernel_rfl
theorem Oo (P:bX):(lD.map fun p=>(r_ P p.1).bind p9)=lD.map fun p=>ac p.2:=by kernel_rfl
theorem uM (w:bZ):en w (r_ w.params) (yK w.params) where
 ns:=.of_isNs (Cd _).1
 a:=.of_isNs (Cd _).2
 blt:=fun x v h=>mv (jH.mp (KJ w.params) _ h) EP
 funs:=fun g b c=>by
  obtain⟨p,e,rfl,_⟩:=Az b;have h:=jH.mp (Ij w.params) p e;rwa[DI c] at h
 consts:=fun x d h=>(jG.mp (jH.mp (Oo w.params) _ (hL h))).imp fun v h=>⟨h.1,yW h.2⟩
set_option backward.match.sparseCases true in
theorem Mn {a:WTm} {e:WCtx} {d:Bool} (c:yu [] a e=ac (g7 d)) (h:WTm.holds [] (.and (.not a) (.lit (g7 af))) e=af):d=false:=by
 induction d with
 |false=>rfl
 |true=>
  have E:yu [] (.not a) e=(match yu [] a e with|some (.bool b)=>ac (g7 (!b))|_=>ah):=rfl
  rw[c] at E;have h:(match(match yu [] (.not a) e with|some (.bool false)=>ac (g7 ai)|some (.bool true)=>ac (g7 af)|_=>ah:Option rE) with|some (.bool true)=>af|_=>ai)=true:=h
  exact(by injection(E▸h))
theorem Mb {A:List rE} (h:cY.row.toRowW.claim.pre A=af):∃ns:List Int,A=[uF (ns.map k8)]∧ns.length≤63:=by
 have h:=bI (h);have c:=h.1;induction A using cn with
 |nil=>exact(by injection c)
 |cons d r=>
  have c:=bI (show(SF [] d (.list .int)&&WShape.hasAll [] r [])=af from c);induction r using cn with
  |cons _ _=>exact nomatch c.2
  |nil=>
   refine ay (hasW_list c.1) fun X y x=> ?_;subst y;obtain⟨ns,rfl⟩:=items_int x;exact bd ns rfl (aB (f:=k8)▸gq.mp (hD.mp (rl (Mn (e:={args:=[uF (ns.map k8)]}) (a:=.lt (.lit (k8 63)) (.len (.arg 0))) (aS (yo g7) (show W.less? (k8 63) (k8 (ns.map k8).length)=ac (aM ((63:Int)<(ns.map k8).length)) by rw[W.less?];rfl)) h.2))))
noncomputable def o1 (w:bZ) (s:ct) (b:bp) (ds:List aj) (o:cl):bN:=fun a=>(d6 w a).or (if a=b then ac (.d (.c ds) o) else(s.heap.get? a).map .a)
section
variable{w:bZ} {s:ct} {b:bp} {ds:List aj} {vs:List aV} {n:Nat} {fr:au}
theorem AD {a:bp} {t:fl} {c:cl} (e:o1 w s b ds c a=ac t):d6 w a=ac t∨(a=b∧t=.d (.c ds) c)∨∃o,s.heap.get? a=ac o∧t=.a o:=by
 refine(Dz.mp e).imp_right fun e=> ?_;have e:=e.2;by_cases h:a=b
 ·rw[aJ h] at e;exact av ⟨h,(bD e).symm⟩
 ·rw[aL h] at e;exact aI ((dg.mp e).imp fun o h=>⟨h.1,h.2.symm⟩)
theorem Kp (y:∀a o,(cO w.params).get? a=ac o→s.heap.get? a=ac o) (l:s.heap.get? b=ac (d5 vs n)):d6 w b=none:=by
 unfold d6;induction c:(cO w.params).get? b with
 |none=>rfl
 |some o=>
  have h:=jH.mp (OZ w.params) o (Ru.mpr (Array.mem_of_getElem? (Heap.get?_some_iff.mp c).1));rw[bD ((y _ _ c).symm.trans l)] at h;exact(by injection h)
theorem K0 (y:∀a o,(cO w.params).get? a=ac o→s.heap.get? a=ac o) (l:s.heap.get? b=ac (d5 vs n)) {a:bp} {o:cl} (c:s.heap.get? a=ac o):∃t,o1 w s b ds (d5 vs n) a=ac t∧i5 ai t∧(t=.a o∨∃d,t=.d d o):=by
 unfold o1;induction g:d6 w a with
 |some t=>
  refine bd t rfl (?_);rcases uW g with⟨f,h,q⟩;have e:=bD (c.symm.trans (y _ _ h));subst e;rcases q with rfl|⟨d,_,rfl⟩
  ·exact⟨trivial,.inl rfl⟩
  ·exact⟨trivial,.inr ⟨d,rfl⟩⟩
 |none=>
  by_cases h:a=b
  ·subst h;exact gX (.d (.c ds) (d5 vs n)) (aJ rfl) trivial (aI ⟨_,aS _ (bD (l.symm.trans c))⟩)
  ·exact gX (.a o) ((aL h).trans (aS (yo fl.a) c)) trivial (av rfl)
theorem N4 (y:∀a o,(cO w.params).get? a=ac o→s.heap.get? a=ac o) (l:s.heap.get? b=ac (d5 vs n)) (v:∀{G},dy G ds vs) (hz:ds.length≤fR):mB w s (o1 w s b ds (d5 vs n)) fr [] s∧o1 w s b ds (d5 vs n) b=ac (.d (.c ds) (d5 vs n)):=by
 have u {a:bp} {t:fl} (e:d6 w a=ac t):o1 w s b ds (d5 vs n) a=ac t:=aS (yq · _) e;refine⟨⟨⟨s.heap,s.toks,rfl⟩,fun a t e=> ?_,fun a c t S e f=>aR S ?_,fun a t _ e=>u e⟩, ?_⟩
 ·rcases AD e with h|⟨rfl,rfl⟩|⟨o,g,rfl⟩
  ·exact(Pz h).imp fun o k=>⟨y _ _ k.1,(k.2 fr).view (fun a t _ e=>u e) (.f fun _ _ _ h=>u h)⟩
  ·exact⟨_,l,rfl,vs,n,rfl,v,hz⟩
  ·exact bd o g rfl
 ·rcases AD e with h|⟨_,rfl⟩|⟨o,_,rfl⟩
  ·rcases uW h with⟨o,_,rfl|⟨d,_,rfl⟩⟩<;>exact id
  ·exact id
  ·exact id
 ·exact(aS (yq · _) (Kp y l)).trans (aJ rfl)
end
theorem MS {h:fT} {L:bp} {m M:br→Option aV} (a:h.Ns L m) (b:h.Ns L M):m=M:=by
 refine uQ a fun o E p c d _ f=>uQ b fun j l q k g _ i=> ?_;have e:=bD (c.symm.trans k);subst e;have e:=d.symm.trans g;injection e with e;subst e;exact funext fun x=>(f x).symm.trans (i x)
def KH (P:bX) (h:fT) (v:aV) (d:rE):Prop:=match d with
 |.int i=>∃t,v=aq i t
 |.list x=>∃a vs,v=am a∧h.get? a=ac (d5 vs 0)∧yH P h vs x
 |_=>True
theorem B_ {P:bX} {h:fT} {v:aV} {d:rE} (x:Well P h v d):KH P h v d:=by
 induction x using Well.casesOn with
 |int i t=>exact⟨t,rfl⟩
 |list a b=>exact⟨_,_,rfl,a,b⟩
 |_=>exact trivial
theorem yJ {P:bX} {h:fT} {vs:List aV} {ds:List rE} (x:yH P h vs ds) (e:ds=[]):vs=[]:=by
 induction x using WellAll.casesOn with
 |nil=>rfl
 |cons=>exact(by injection e)
theorem NW {P:bX} {h:fT} {G:bN} {ns:List Int}:∀{vs:List aV},yH P h vs (ns.map k8)→dy G (ns.map ae) vs:=by
 induction ns with
 |nil=>intro vs h;exact yJ h rfl▸cI
 |cons n ns i=>intro vs h;exact(SR h).elim fun v h=>h.elim fun vs h=>dM h fun e a r=>e▸cy (B_ a) (i r)
theorem E0 {P:bX} {h:fT} {vs:List aV} {ns:List Int} (x:yH P h vs [uF (ns.map k8)]):∃b us,vs=[am b]∧h.get? b=ac (d5 us 0)∧∀{G},dy G (ns.map ae) us:=
 (SR x).elim fun v x=>x.elim fun r x=>dM x fun e a n=>(B_ a).elim fun b h=>h.elim fun us h=>er b us (by rw[e,h.1,yJ n rfl]) h.2.1 (NW h.2.2)
theorem Qb:kc.name="law":=by kernel_rfl
set_option backward.match.sparseCases true in
theorem JO (a B:List rE):cY.row.toRowW.claim.post a (g7 af) B=true:=by
 have h:W.same (g7 af) (g7 af)=true:=by rw[W.same];rfl
 have e:WTm.holds [] (.eq .res (.lit (g7 af))) {args:=a,res:=ac (g7 af),after:=B}=true:=aS (fun b=>(match ac (g7 b) with|some (.bool true)=>af|_=>ai:Bool)) h
 exact(fu (SF [] (g7 af) .bool) _).mpr ⟨by kernel_rfl,e⟩
theorem FY:i_.lookup 295=ac (1180,1179):=by decide
theorem FO:("law":br)=ed 295:=by kernel_rfl
theorem NX {w:bZ} {s:ct} {b:bp} {us:List aV} {ns:List Int} {A:pO} {R:Result→ct→Prop} (ro:oL 60 A) (y:∀a o,(cO w.params).get? a=ac o→s.heap.get? a=ac o) (i:s.heap.get? b=ac (d5 us 0)) (r:∀{G},dy G (ns.map ae) us) (j:ns.length≤63)
  (u:∀h' tk,(∀c o,s.heap.get? c=ac o→h'.get? c=ac o)→R (jJ (.ret (cC af))) {s with heap:=h',toks:=tk}):oi (aN aC w) A (.call (am 1180) ⟨[am b],[]⟩) R s:=by
 refine(FB j).elim fun S x=>(IM (uM w) 60 x).elim fun F h=>h.elim fun H h=>h.elim fun P h=>h.elim fun fr h=>dM h fun z Q h=>h.elim fun m B=> ?_;have f:=bD (z.symm.trans FY);subst f;refine(N4 y i r (by rw[jj,aB];exact ao j (by decide))).elim fun k T=>B ro k ?_ fun{v U g L} l q _ C=> ?_
 ·induction H using cn with
  |nil=>exact(by injection m)
  |cons p H=>exact⟨(cL _ _ rfl T),by induction H using cn<;>trivial⟩
 ·refine(C)▸q.same.elim fun h' h=>h.elim fun tk e=>e▸u h' tk fun c V E=>eB (K0 y i E) fun t I M N=>(q.ok c t (l c t M I)).elim fun W h=> ?_;rw[e] at h;rcases N with rfl|⟨d,rfl⟩
  ·exact h.2▸h.1
  ·exact h.2.1▸h.1
theorem Kh:WalkO lh nz (fun _ _=>True) sS cY.row.toRowW kc [] (fun f vs=>gN f vs):=by
 intro w S B m M G y a o P c d V C F I r L g i A Q R e T U l W;refine(Mb e).elim fun N h=> ?_;have j:a=1180:=by
  have h:=(show m kc.name=ac (am (l2 295)) from(MS G.T.g ((uM w).ns.elim fun o h=>h.elim fun E h=>h.elim fun p h=>iO o E p (y _ _ h.1) h.2))▸Qb▸FO▸(uM w).funs 295 (by decide) (by decide)).symm.trans g;injection h with h;injection h with h;exact h.symm.trans (by decide)
 refine(E0 (h.1▸l)).elim fun b q=>q.elim fun u q=>dM q fun v x z=>ak j ?_;refine ak v ?_;exact yx (NX ⟨rfl,by decide,by decide⟩ y x z h.2 fun X t k=>
  nD (av (r2 _ (g7 af) ([]) rfl (fun _=>rfl) (.bool af) (JO _ _) (fun _=>⟨h7,fun _ h=>nomatch h⟩))) (.of_keep k) rfl (.of_eq i))
end Rh.Internal
theorem PySem.Challenge.cw_rh0138_01_holds : PySem.Challenge.rw_rh0138_01.Holds :=
 Rh.Internal.OX Rh.Internal.Kh
